import PyProof.Rows.All
import Wide.All
import OpenK.AllK
import Wide.FinOn
import HandS.ForMost
import HandS.IsInst
import HandS.Deep
import HandS.Walk
import HandS.Zip
import HandS.Wide
import HandS.SortInts
import HandS.TupAny
import HandS.TupMul
import HandS.Conv
import HandS.NoneIn
import HandS.Flow
import HandS.Dict
import HandS.TupLe
import PyProof.Rows.SortShellAny
import KE.GoesNew
import KE.GoesEnum
import HandS.More
import HandS.Strs
import KE.KDictSum
import HandS.Style
import HandS.TupSets
import HandS.SetFor
import HandS.Flt
import HandS.Words
import HandS.Ends
import PyProof.ReprBulk
import PySem.Challenge.RW_unturned_k03_streams_judged
set_option Elab.async false
set_option linter.all false
set_option maxRecDepth 100000
set_option maxHeartbeats 4000000
/-! EvA: data, small trees, and what they compute. -/
namespace Ev
open PySem

/-- data: tuples as they are, what can change by its place in a memory -/
inductive D where
  | non | bl (b : Bool) | int (i : Int) | str (s : Str) | tup (l : List D) | ref (n : Nat) | scr (l : List Int)

/-- what stands in a memory -/
inductive O where
  | lst (l : List D)
  | dct (l : List (L2.Key × D))
  | ins (c : Nat) (l : List (Str × D))

abbrev Env := List (Option D)
abbrev Mem := List O

/-- a value on its way: data, or a list that nobody else has -/
inductive W where
  | v (d : D) | fl (l : List D)

/-- an error on its way -/
structure Xc where
  c : Nat
  l : List (Str × D)

inductive Res (α : Type) where
  | no
  | ok (a : α) (M : Mem)
  | ex (x : Xc) (M : Mem)

def Res.bind {α β : Type} (r : Res α) (f : α → Mem → Res β) : Res β :=
  match r with
  | .no => .no
  | .ok a M => f a M
  | .ex x M => .ex x M
def Res.opt {α : Type} (o : Option α) (M : Mem) : Res α :=
  match o with
  | none => .no
  | some a => .ok a M

/-- what a statement comes to -/
inductive Fl where
  | nx (s : Env) | rt (w : W) | bk (s : Env) | ct (s : Env)

inductive Bop where
  | add | sub | mul | fdiv | mod | pow
  deriving DecidableEq
inductive Cop where
  | eq | ne | lt | le | gt | ge | is | isnot | inn | notin
  deriving DecidableEq
inductive Ty where
  | int | bool | str | tuple | list | dict
  deriving DecidableEq
inductive Bi where
  | tuple | list | sorted | sum | all | any | min | max
  deriving DecidableEq

mutual
inductive Tg where
  | nm (i : Nat) | tp (ts : Tgs)
inductive Tgs where
  | nil | cons (t : Tg) (r : Tgs)
end

mutual
inductive E where
  | var (i : Nat)
  | num (i : Int)
  | str (s : Str)
  | bl (b : Bool)
  | non
  | glb (i : Nat)
  | bop (o : Bop) (a b : E)
  | neg (a : E)
  | not (a : E)
  | cmp (o : Cop) (a b : E)
  | chain (o p : Cop) (a b c : E)
  | and (a b : E)
  | or (a b : E)
  | ite (c a b : E)
  | tup (es : Es)
  | lst (es : Es)
  | ix (a i : E)
  | sl (a : E) (lo hi : Eo)
  | call (f : Nat) (es : Es)
  | len (a : E)
  | abs (a : E)
  | toint (a : E)
  | repr (a : E)
  | min2 (a b : E)
  | max2 (a b : E)
  | isi (a : E) (t : Ty)
  | bi (f : Bi) (i : I)
  | app (o x : E)
  | ins (o i x : E)
  | pop (o : E)
  | popi (o i : E)
  | idx (o x : E)
  | ext (o x : E)
  | dnew
  | dget (o i : E)
  | din (neg : Bool) (x o : E)
  | dsort (o : E)
  | dlit (x : Str) (e : E)
  | rev (a : E)
  | lenset (a : E)
  | sset (a : E)
  | tostr (a : E)
  | min3 (a b c : E)
  | orl (a b : E)
  | mind (a : E) (z : Int)
  | dupd (o k v : E) (tg : Tg) (it : I) (c : Eo) (ws : List Nat)
  | comp (el : E) (tg : Tg) (it : I) (c : Eo) (ws : List Nat)
inductive Es where
  | nil | cons (e : E) (r : Es)
inductive Eo where
  | none | some (e : E)
inductive I where
  | val (e : E) | rng1 (a : E) | rng2 (a b : E) | enum (e : E) | zip2 (a b : E) | zip3 (a b c : E) | enz (a b : E)
end

mutual
inductive S where
  | asg (t : Tg) (e : E)
  | par (is : List Nat) (es : Es)
  | setix (o i x : E)
  | dset (o i x : E)
  | augix (f : Bop) (o i x : E)
  | expr (e : E)
  | ret (e : E)
  | retn
  | ife (c : E) (a b : Ss)
  | for_ (t : Tg) (it : I) (b : Ss)
  | whl (c : E) (b : Ss)
  | cont
  | brk
  | pass
inductive Ss where
  | nil | cons (s : S) (r : Ss)
end

/-! ### data as the library's data -/
mutual
def D.pdR (f : Nat → Option PyData) : D → Option PyData
  | .non => some .none
  | .bl b => some (.bool b)
  | .int i => some (.int i)
  | .str x => some (.str x)
  | .tup l => match D.pdRs f l with
    | some ds => some (.tuple ds)
    | none => none
  | .ref n => f n
  | .scr l => some (.list (l.map .int))
def D.pdRs (f : Nat → Option PyData) : List D → Option (List PyData)
  | [] => some []
  | d :: r => match D.pdR f d, D.pdRs f r with
    | some x, some xs => some (x :: xs)
    | _, _ => none
end
def keyPd : L2.Key → PyData
  | .inl i => .int i
  | .inr x => .str x
/-- lists within lists, three deep -/
def refPd (M : Mem) : Nat → Nat → Option PyData
  | 0, _ => none
  | k + 1, n => match M[n]? with
    | some (.lst l) => match D.pdRs (refPd M k) l with
      | some ds => some (.list ds)
      | none => none
    | some (.dct l) => match D.pdRs (refPd M k) (l.map (·.2)) with
      | some ds => some (.dict ((l.map fun p => keyPd p.1).zip ds))
      | none => none
    | _ => none
def pdD (M : Mem) (d : D) : Option PyData := d.pdR (refPd M 4)
def pdW (M : Mem) : W → Option PyData
  | .v d => pdD M d
  | .fl l => match D.pdRs (refPd M 4) l with
    | some ds => some (.list ds)
    | none => none

/-! what stays below a place -/
mutual
def D.bel (b : Nat) : D → Bool
  | .ref n => decide (n < b)
  | .tup l => D.bels b l
  | .non => true
  | .bl _ => true
  | .int _ => true
  | .str _ => true
  | .scr _ => true
def D.bels (b : Nat) : List D → Bool
  | [] => true
  | d :: r => D.bel b d && D.bels b r
end
def O.bel (b : Nat) : O → Bool
  | .lst l => D.bels b l
  | .dct l => D.bels b (l.map (·.2))
  | .ins _ l => D.bels b (l.map (·.2))
def W.bel (b : Nat) : W → Bool
  | .v d => D.bel b d
  | .fl l => D.bels b l

/-! ### lists and tuples as rows of things -/
def asL (M : Mem) : W → Option (List D)
  | .fl l => some l
  | .v (.ref n) => match M[n]? with
    | some (.lst l) => some l
    | _ => none
  | .v (.scr l) => some (l.map .int)
  | _ => none
/-- .. that may change -/
def asM (M : Mem) : W → Option (List D)
  | .fl l => some l
  | .v (.ref n) => match M[n]? with
    | some (.lst l) => some l
    | _ => none
  | _ => none
def asT : W → Option (List D)
  | .v (.tup l) => some l
  | _ => none
def asQ (M : Mem) (w : W) : Option (List D) :=
  match asT w with
  | some l => some l
  | none => asL M w
/-- a list that has a place; a tuple -/
def recL (M : Mem) : W → Bool
  | .v (.ref n) => match M[n]? with
    | some (.lst _) => true
    | _ => false
  | _ => false
def recQ (M : Mem) (w : W) : Bool := recL M w || (asT w).isSome
/-- of which objects a row is read -/
def srcs (M : Mem) : W → List (Nat × O)
  | .v (.ref n) => match M[n]? with
    | some o => [(n, o)]
    | none => []
  | _ => []
def SrcOk (ss : List (Nat × O)) (M : Mem) : Prop := ∀ p ∈ ss, M[p.1]? = some p.2
/-- a list gets a place -/
def put : W → Mem → D × Mem
  | .v d, M => (d, M)
  | .fl l, M => (.ref M.length, M ++ [.lst l])
def Res.put (r : Res W) : Res D := r.bind fun w M => .ok (Ev.put w M).1 (Ev.put w M).2

/-! ### operations -/
def cut {α : Type} (xs : List α) (lo hi : Option Int) : List α := (xs.drop (HT.sIx xs.length 0 lo)).take (HT.sIx xs.length xs.length hi - HT.sIx xs.length 0 lo)
def scalEq : D → D → Option Bool
  | .non, .non => some true
  | .non, .bl _ => some false | .non, .int _ => some false | .non, .str _ => some false
  | .bl _, .non => some false | .int _, .non => some false | .str _, .non => some false
  | .int i, .int j => some (decide (i = j))
  | .bl i, .bl j => some (decide (i = j))
  | .str i, .str j => some (decide (i = j))
  | .int _, .str _ => some false | .str _, .int _ => some false | .bl _, .str _ => some false | .str _, .bl _ => some false
  | _, _ => none
def pdEq (a b : Option PyData) : Option Bool :=
  match a, b with
  | some x, some y => if x.canLay0 = true ∧ y.canLay0 = true ∧ min x.depth y.depth ≤ 64 then some (x.eqv y) else none
  | _, _ => none
/-- a tuple beside an empty one -/
def eqNil : D → D → Option Bool
  | .tup l, .tup [] => some l.isEmpty
  | _, _ => none
def eqW (M : Mem) (a b : W) : Option Bool :=
  match a, b with
  | .v x, .v y => match scalEq x y with
    | some r => some r
    | none => match pdEq (pdD M x) (pdD M y) with
      | some r => some r
      | none => eqNil x y
  | a, b => pdEq (pdW M a) (pdW M b)
/-- flat: no row, no object -/
def D.flat : D → Bool
  | .non => true | .bl _ => true | .int _ => true | .str _ => true | _ => false
/-- x == y of flat ones -/
def eqF : D → D → Bool
  | .non, .non => true
  | .int i, .int j => decide (i = j)
  | .bl i, .bl j => decide (i = j)
  | .str i, .str j => decide (i = j)
  | .int i, .bl b => decide (i = if b then 1 else 0)
  | .bl b, .int i => decide ((if b then 1 else 0) = i)
  | _, _ => false
/-- x in a row -/
def inQ (M : Mem) (a b : W) : Option Bool :=
  match a, asQ M b with
  | .v x, some l => if x.flat = true ∧ l.all D.flat = true then some (l.any fun y => eqF y x) else
      match pdD M x, D.pdRs (refPd M 4) l with
      | some d, some ds => if SeqAt.shaped d = true ∧ SeqAt.shaped (.list ds) = true then some (ds.any fun z => z.eqv d) else none
      | _, _ => none
  | _, _ => none
def CMulE (i j : Int) : Prop := (-(2 ^ 64) < i ∧ i < 2 ^ 64) ∨ (-(2 ^ 64) < j ∧ j < 2 ^ 64)
instance (i j : Int) : Decidable (CMulE i j) := by unfold CMulE; infer_instance
def CDivE (j : Int) : Prop := 0 < j ∧ j < 2 ^ 60
instance (j : Int) : Decidable (CDivE j) := by unfold CDivE; infer_instance
def CPowE (i j : Int) : Prop := 0 ≤ j ∧ j ≤ 1000000 ∧ i.natAbs < 2 ^ 64
instance (i j : Int) : Decidable (CPowE i j) := by unfold CPowE; infer_instance
def opW (o : Bop) (M : Mem) (a b : W) : Option W :=
  match o with
  | .add => match a, b with
    | .v (.int i), .v (.int j) => some (.v (.int (i + j)))
    | .v (.str x), .v (.str y) => if x.length + y.length ≤ 16777216 then some (.v (.str (x ++ y))) else none
    | .v (.tup l), .v (.tup r) => if l.length + r.length ≤ 16777216 then some (.v (.tup (l ++ r))) else none
    | a, b => match asM M a, asM M b with
      | some l, some r => if l.length + r.length ≤ 16777216 then some (.fl (l ++ r)) else none
      | _, _ => none
  | .sub => match a, b with
    | .v (.int i), .v (.int j) => some (.v (.int (i - j)))
    | _, _ => none
  | .mul => match a, b with
    | .v (.int i), .v (.int j) => if CMulE i j then some (.v (.int (i * j))) else none
    | .fl l, .v (.int k) => if 0 ≤ k ∧ k < 2 ^ 62 ∧ l.length * k.toNat ≤ 16777216 then some (.fl (List.replicate k.toNat l).flatten) else none
    | .v (.ref n), .v (.int k) => match M[n]? with
      | some (.lst l) => if 0 ≤ k ∧ k < 2 ^ 62 ∧ l.length * k.toNat ≤ 16777216 then some (.fl (List.replicate k.toNat l).flatten) else none
      | _ => none
    | .v (.tup [x]), .v (.int k) => if 1 ≤ k ∧ k ≤ 1000 then some (.v (.tup (List.replicate k.toNat x))) else none
    | _, _ => none
  | .fdiv => match a, b with
    | .v (.int i), .v (.int j) => if CDivE j then some (.v (.int (i / j))) else none
    | _, _ => none
  | .mod => match a, b with
    | .v (.int i), .v (.int j) => if 0 < j then some (.v (.int (i % j))) else none
    | _, _ => none
  | .pow => match a, b with
    | .v (.int i), .v (.int j) => if CPowE i j then some (.v (.int (i ^ j.toNat))) else none
    | _, _ => none
def cmpW (o : Cop) (M : Mem) (a b : W) : Option Bool :=
  match o with
  | .eq => eqW M a b
  | .ne => (eqW M a b).map (!·)
  | .lt => match a, b with
    | .v (.int i), .v (.int j) => some (decide (i < j))
    | _, _ => none
  | .le => match a, b with
    | .v (.int i), .v (.int j) => some (decide (i ≤ j))
    | _, _ => none
  | .gt => match a, b with
    | .v (.int i), .v (.int j) => some (decide (j < i))
    | _, _ => none
  | .ge => match a, b with
    | .v (.int i), .v (.int j) => some (decide (j ≤ i))
    | _, _ => none
  | .is => match a, b with
    | .v .non, .v .non => some true
    | _, .v .non => some false
    | .v (.bl i), .v (.bl j) => some (decide (i = j))
    | _, _ => none
  | .isnot => match a, b with
    | .v .non, .v .non => some false
    | _, .v .non => some true
    | .v (.bl i), .v (.bl j) => some (!decide (i = j))
    | _, _ => none
  | .inn => inQ M a b
  | .notin => (inQ M a b).map (!·)
def ixW (M : Mem) (a i : W) : Option W :=
  match asQ M a, i with
  | some l, .v (.int k) => (L2.atI l k).map .v
  | _, _ => none
def slW (M : Mem) (a : W) (lo hi : Option Int) : Option W :=
  match asT a with
  | some l => some (.v (.tup (cut l lo hi)))
  | none => match asL M a with
    | some l => some (.fl (cut l lo hi))
    | none => none
def lenW (M : Mem) (a : W) : Option Int :=
  match asQ M a with
  | some l => some l.length
  | none => none
def isTy (M : Mem) (a : W) (t : Ty) : Option Bool :=
  match a with
  | .v .non => some false
  | .v (.bl _) => some (t = .bool || t = .int)
  | .v (.int _) => some (t = .int)
  | .v (.str _) => some (t = .str)
  | .v (.tup _) => some (t = .tuple)
  | .v (.scr _) => some (t = .list)
  | .fl _ => some (t = .list)
  | .v (.ref n) => match M[n]? with
    | some (.lst _) => some (t = .list)
    | some (.dct _) => some (t = .dict)
    | _ => none
def intsOf : List D → Option (List Int)
  | [] => some []
  | .int i :: r => (intsOf r).map (i :: ·)
  | _ :: _ => none
def blsOf : List D → Option (List Bool)
  | [] => some []
  | .bl i :: r => (blsOf r).map (i :: ·)
  | _ :: _ => none
def sortI (l : List Int) : List Int := l.mergeSort fun a b => decide (a ≤ b)
def maxI : List Int → Option Int
  | [] => none
  | x :: r => some (r.foldl max x)
def minI : List Int → Option Int
  | [] => none
  | x :: r => some (r.foldl min x)
def biW (f : Bi) (l : List D) : Option W :=
  match f with
  | .tuple => some (.v (.tup l))
  | .list => some (.fl l)
  | .sorted => (intsOf l).map fun r => .fl ((sortI r).map .int)
  | .sum => (intsOf l).map fun r => .v (.int r.sum)
  | .all => (blsOf l).map fun r => .v (.bl (r.all id))
  | .any => (blsOf l).map fun r => .v (.bl (r.any id))
  | .min => (intsOf l).bind fun r => (minI r).map fun i => .v (.int i)
  | .max => (intsOf l).bind fun r => (maxI r).map fun i => .v (.int i)
def biV (f : Bi) (M : Mem) (a : W) : Option W := (asQ M a).bind (biW f)
/-- what may be gone through where -/
def biT2 : Bi → Bool
  | _ => true
def biV2 (f : Bi) (M : Mem) (a : W) : Option W := if biT2 f = true ∨ asT a = none then biV f M a else none
/-- .. over a range -/
def biR (f : Bi) (l : List D) : Option W :=
  match f with
  | .tuple => some (.v (.tup l))
  | .list => some (.fl l)
  | _ => none
def reprW (M : Mem) (a : W) : Option Str :=
  match pdW M a with
  | some p => if p.showable = true ∧ p.depth ≤ 64 ∧ p.shown.length ≤ 16777216 then some p.shown else none
  | none => none

/-- a list's or a tuple's things the other way about -/
def revW (M : Mem) (a : W) : Option W :=
  match asT a with
  | some l => some (.v (.tup l.reverse))
  | none => (asL M a).map fun l => .fl l.reverse
/-- each thing once -/
def nub {α : Type} [DecidableEq α] : List α → List α
  | [] => []
  | a :: r => if a ∈ r then nub r else a :: nub r
/-- None or a number -/
def oiOf : D → Option (Option Int)
  | .non => some none
  | .int i => some (some i)
  | _ => none
def tiOf : D → Option (List Int)
  | .tup l => intsOf l
  | _ => none
def allOf {α : Type} (f : D → Option α) : List D → Option (List α)
  | [] => some []
  | d :: r => match f d, allOf f r with
    | some x, some xs => some (x :: xs)
    | _, _ => none
/-- len(set(..)) -/
def lensetW (M : Mem) (a : W) : Option W :=
  match asQ M a with
  | some l => if l.length < 64 then match allOf oiOf l with
      | some ks => some (.v (.int (nub ks).length))
      | none => match asT a, allOf tiOf l with
        | none, some ks => some (.v (.int (nub ks).length))
        | _, _ => none
    else none
  | none => none
/-- sorted(set(..)) -/
def ssetW (a : W) : Option W :=
  match asT a with
  | some l => if l.length < 64 then (intsOf l).map fun ks => .fl ((sortI (nub ks)).map .int) else none
  | none => none
/-- min(.., default=z) -/
def mindW (M : Mem) (a : W) (z : Int) : Option W :=
  match a with
  | .fl l => (intsOf l).map fun ks => match minI ks with
    | some i => .v (.int i)
    | none => .v (.int z)
  | _ => none
def tostrW (a : W) : Option W :=
  match a with
  | .v (.int i) => if i.natAbs.log2 < 1920 then some (.v (.str (toString i))) else none
  | _ => none

/-! ### targets -/
mutual
def asgT : Tg → D → Env → Option Env
  | .nm i, d, s => some (s.set i (some d))
  | .tp ts, .tup l, s => asgTs ts l s
  | .tp _, _, _ => none
def asgTs : Tgs → List D → Env → Option Env
  | .nil, [], s => some s
  | .cons t r, d :: l, s => match asgT t d s with
    | some s' => asgTs r l s'
    | none => none
  | _, _, _ => none
end
/-- .. from a list, too -/
def asgW (t : Tg) (M : Mem) (w : W) (s : Env) : Option (Env × Mem) :=
  match t, w with
  | .tp ts, .fl l => (asgTs ts l s).map fun s' => (s', M)
  | t, w => (asgT t (put w M).1 s).map fun s' => (s', (put w M).2)

/-! ### loops -/
noncomputable section
open Classical in
def forL (body : D → Env → Mem → Res Fl) (ss : List (Nat × O)) : List D → Env → Mem → Res Fl
  | [], s, M => .ok (.nx s) M
  | d :: r, s, M => (body d s M).bind fun f M1 => match f with
    | .nx s1 => if SrcOk ss M1 then forL body ss r s1 M1 else .no
    | .ct s1 => if SrcOk ss M1 then forL body ss r s1 M1 else .no
    | .bk s1 => .ok (.nx s1) M1
    | .rt w => .ok (.rt w) M1
open Classical in
def compL (turn : D → Mem → Res (Option D)) (ss : List (Nat × O)) : List D → Mem → Res (List D)
  | [], M => .ok [] M
  | d :: r, M => (turn d M).bind fun o M1 => if SrcOk ss M1 then (compL turn ss r M1).bind fun l M2 => .ok (match o with | some x => x :: l | none => l) M2 else .no
def whlL (c : Env → Mem → Res Bool) (b : Env → Mem → Res Fl) : Nat → Env → Mem → Res Fl
  | 0, _, _ => .no
  | n + 1, s, M => (c s M).bind fun t M1 => match t with
    | false => .ok (.nx s) M1
    | true => (b s M1).bind fun f M2 => match f with
      | .nx s1 => whlL c b n s1 M2
      | .ct s1 => whlL c b n s1 M2
      | .bk s1 => .ok (.nx s1) M2
      | .rt w => .ok (.rt w) M2
def wipeE (s : Env) : List Nat → Env
  | [] => s
  | v :: vs => (wipeE s vs).set v none
def setAll (s : Env) : List Nat → List D → Option Env
  | [], [] => some s
  | i :: is, d :: ds => setAll (s.set i (some d)) is ds
  | _, _ => none

/-! ### the evaluator -/
/-- what calls answer, the module's constants, how many turns a while has -/
structure Cl where
  call : Nat → List D → Mem → Res W
  glb : Nat → D
  fuel : Nat

def toB : W → Option Bool
  | .v (.bl b) => some b
  | _ => none
def toI : W → Option Int
  | .v (.int i) => some i
  | _ => none
def enumD : Nat → List D → List D
  | _, [] => []
  | k, d :: r => .tup [.int k, d] :: enumD (k + 1) r
def zipD : List D → List D → List D
  | a :: r, b :: s => .tup [a, b] :: zipD r s
  | _, _ => []
def zipD3 : List D → List D → List D → List D
  | a :: r, b :: s, c :: t => .tup [a, b, c] :: zipD3 r s t
  | _, _, _ => []
def rngD (a b : Int) : List D := (List.range (b - a).toNat).map fun i => D.int (a + (i : Nat))
def RngOk (a b : Int) : Prop := -(2 ^ 62) ≤ a ∧ a < 2 ^ 62 ∧ -(2 ^ 62) ≤ b ∧ b < 2 ^ 62 ∧ (b - a).toNat ≤ 16777216
instance (a b : Int) : Decidable (RngOk a b) := by unfold RngOk; infer_instance

def seqIx (l : Nat) (k : Int) : Option Nat := L2.ixN l k
def insAt (l : List D) (k : Nat) (x : D) : List D := l.take k ++ x :: l.drop k

def keyD : D → Option L2.Key
  | .int i => some (.inl i)
  | .str x => some (.inr x)
  | _ => none
def keysI : List (L2.Key × D) → Option (List Int)
  | [] => some []
  | (.inl i, _) :: r => (keysI r).map (i :: ·)
  | _ :: _ => none
/-- sorted of a dict whose keys are ints -/
def dsV (M : Mem) : W → Option W
  | .v (.ref n) => match M[n]? with
    | some (.dct l) => (keysI l).map fun ks => .fl ((sortI ks).map .int)
    | _ => none
  | _ => none
def dLook (l : List (L2.Key × D)) (k : L2.Key) : Option D := (l.find? fun p => decide (p.1 = k)).map (·.2)
def dPut (l : List (L2.Key × D)) (k : L2.Key) (d : D) : List (L2.Key × D) :=
  if (l.any fun p => decide (p.1 = k)) = true then l.map (fun p => if p.1 = k then (p.1, d) else p) else l ++ [(k, d)]
/-- pairs laid into a dict, one by one -/
def dPuts : List (L2.Key × D) → List D → Option (List (L2.Key × D))
  | l, [] => some l
  | l, .tup [k, v] :: r => match keyD k with
    | some k => dPuts (dPut l k v) r
    | none => none
  | _, _ => none
mutual
def evE (C : Cl) : E → Env → Mem → Res W
  | .var i, s, M => match s[i]? with
    | some (some d) => .ok (.v d) M
    | _ => .no
  | .num i, _, M => .ok (.v (.int i)) M
  | .str x, _, M => .ok (.v (.str x)) M
  | .bl b, _, M => .ok (.v (.bl b)) M
  | .non, _, M => .ok (.v .non) M
  | .glb i, _, M => .ok (.v (C.glb i)) M
  | .bop o a b, s, M => (evE C a s M).bind fun x M1 => (evE C b s M1).bind fun y M2 => .opt (opW o M2 x y) M2
  | .neg a, s, M => (evE C a s M).bind fun x M1 => .opt ((toI x).map fun i => .v (.int (-i))) M1
  | .not a, s, M => (evE C a s M).bind fun x M1 => .opt ((toB x).map fun i => .v (.bl (!i))) M1
  | .cmp o a b, s, M => (evE C a s M).bind fun x M1 => (evE C b s M1).bind fun y M2 => .opt ((cmpW o M2 x y).map fun r => .v (.bl r)) M2
  | .chain o p a b c, s, M => (evE C a s M).bind fun x M1 => (evE C b s M1).bind fun y M2 => (Res.opt (cmpW o M2 x y) M2).bind fun r M3 => match r with
    | false => .ok (.v (.bl false)) M3
    | true => (evE C c s M3).bind fun z M4 => .opt ((cmpW p M4 y z).map fun r => .v (.bl r)) M4
  | .and a b, s, M => (evE C a s M).bind fun x M1 => (Res.opt (toB x) M1).bind fun r M2 => match r with
    | false => .ok (.v (.bl false)) M2
    | true => (evE C b s M2).bind fun y M3 => .opt ((toB y).map fun i => .v (.bl i)) M3
  | .or a b, s, M => (evE C a s M).bind fun x M1 => (Res.opt (toB x) M1).bind fun r M2 => match r with
    | true => .ok (.v (.bl true)) M2
    | false => (evE C b s M2).bind fun y M3 => .opt ((toB y).map fun i => .v (.bl i)) M3
  | .ite c a b, s, M => (evE C c s M).bind fun x M1 => (Res.opt (toB x) M1).bind fun r M2 => match r with
    | true => evE C a s M2
    | false => evE C b s M2
  | .tup es, s, M => (evEs C es s M).bind fun l M1 => .ok (.v (.tup l)) M1
  | .lst es, s, M => (evEs C es s M).bind fun l M1 => .ok (.fl l) M1
  | .ix a i, s, M => (evE C a s M).bind fun x M1 => (evE C i s M1).bind fun y M2 => .opt (ixW M2 x y) M2
  | .sl a lo hi, s, M => (evE C a s M).bind fun x M1 => (evO C lo s M1).bind fun l M2 => (evO C hi s M2).bind fun h M3 => .opt (slW M3 x l h) M3
  | .call f es, s, M => (evEs C es s M).bind fun l M1 => C.call f l M1
  | .len a, s, M => (evE C a s M).bind fun x M1 => .opt ((lenW M1 x).map fun i => .v (.int i)) M1
  | .abs a, s, M => (evE C a s M).bind fun x M1 => .opt ((toI x).map fun i => .v (.int (if i < 0 then -i else i))) M1
  | .toint a, s, M => (evE C a s M).bind fun x M1 => match x with
    | .v (.int i) => .ok (.v (.int i)) M1
    | .v (.bl k) => .ok (.v (.int (if k then 1 else 0))) M1
    | _ => .no
  | .repr a, s, M => (evE C a s M).bind fun x M1 => .opt ((reprW M1 x).map fun z => .v (.str z)) M1
  | .min2 a b, s, M => (evE C a s M).bind fun x M1 => (evE C b s M1).bind fun y M2 => match x, y with
    | .v (.int i), .v (.int j) => .ok (.v (.int (if j < i then j else i))) M2
    | _, _ => .no
  | .max2 a b, s, M => (evE C a s M).bind fun x M1 => (evE C b s M1).bind fun y M2 => match x, y with
    | .v (.int i), .v (.int j) => .ok (.v (.int (if j > i then j else i))) M2
    | _, _ => .no
  | .isi a t, s, M => (evE C a s M).bind fun x M1 => .opt ((isTy M1 x t).map fun r => .v (.bl r)) M1
  | .bi f (.val e), s, M => (evE C e s M).bind fun x M1 => .opt (biV2 f M1 x) M1
  | .bi f (.rng1 a), s, M => (evE C a s M).bind fun x M1 => .opt ((toI x).bind fun i => if RngOk 0 i then biR f (rngD 0 i) else none) M1
  | .bi f (.rng2 a b), s, M => (evE C a s M).bind fun x M1 => (evE C b s M1).bind fun y M2 => .opt ((toI x).bind fun i => (toI y).bind fun j => if RngOk i j then biR f (rngD i j) else none) M2
  | .bi _ _, _, _ => .no
  | .app o x, s, M => (evE C o s M).bind fun w M1 => if recL M1 w = false then .no else (evE C x s M1).put.bind fun d M2 => match w with
    | .v (.ref n) => match M2[n]? with
      | some (.lst l) => if l.length < 16777216 then .ok (.v .non) (M2.set n (.lst (l ++ [d]))) else .no
      | _ => .no
    | _ => .no
  | .ins o i x, s, M => (evE C o s M).bind fun w M1 => if recL M1 w = false then .no else (evE C i s M1).bind fun k M2 => (evE C x s M2).put.bind fun d M3 => match w, k with
    | .v (.ref n), .v (.int k) => match M3[n]? with
      | some (.lst l) => if l.length < 16777216 ∧ 0 ≤ k ∧ k < 2 ^ 62 then .ok (.v .non) (M3.set n (.lst (insAt l k.toNat d))) else .no
      | _ => .no
    | _, _ => .no
  | .pop o, s, M => (evE C o s M).bind fun w M1 => match w with
    | .v (.ref n) => match M1[n]? with
      | some (.lst l) => match l[l.length - 1]? with
        | some d => .ok (.v d) (M1.set n (.lst l.dropLast))
        | none => .no
      | _ => .no
    | _ => .no
  | .popi o i, s, M => (evE C o s M).bind fun w M1 => if recL M1 w = false then .no else (evE C i s M1).bind fun k M2 => match w, k with
    | .v (.ref n), .v (.int k) => match M2[n]? with
      | some (.lst l) => if -(2 ^ 62) ≤ k ∧ k < 2 ^ 62 then match seqIx l.length k with
        | some j => match l[j]? with
          | some d => .ok (.v d) (M2.set n (.lst (l.eraseIdx j)))
          | none => .no
        | none => .no
        else .no
      | _ => .no
    | _, _ => .no
  | .idx o x, s, M => (evE C o s M).bind fun w M1 => if recQ M1 w = false then .no else (evE C x s M1).bind fun k M2 => match asQ M2 w, k with
    | some l, .v d => if d.flat = true ∧ l.all D.flat = true then match l.findIdx? fun y => eqF y d with
        | some j => .ok (.v (.int j)) M2
        | none => .no
      else .no
    | _, _ => .no
  | .ext o x, s, M => (evE C o s M).bind fun w M1 => if recL M1 w = false then .no else (evE C x s M1).bind fun y M2 => match w, asM M2 y with
    | .v (.ref n), some r => match M2[n]? with
      | some (.lst l) => if l.length + r.length ≤ 16777216 then .ok (.v .non) (M2.set n (.lst (l ++ r))) else .no
      | _ => .no
    | _, _ => .no
  | .dnew, _, M => .ok (.v (.ref M.length)) (M ++ [.dct []])
  | .dget o i, s, M => (evE C o s M).bind fun w M1 => (evE C i s M1).bind fun k M2 => match w, k with
    | .v (.ref n), .v d => match M2[n]?, keyD d with
      | some (.dct l), some k => match dLook l k with
        | some v => .ok (.v v) M2
        | none => .no
      | _, _ => .no
    | _, _ => .no
  | .dsort o, s, M => (evE C o s M).bind fun x M1 => .opt (dsV M1 x) M1
  | .dlit x e, s, M => (evE C e s M).put.bind fun d M1 => .ok (.v (.ref M1.length)) (M1 ++ [.dct [(.inr x, d)]])
  | .rev a, s, M => (evE C a s M).bind fun x M1 => .opt (revW M1 x) M1
  | .lenset a, s, M => (evE C a s M).bind fun x M1 => .opt (lensetW M1 x) M1
  | .sset a, s, M => (evE C a s M).bind fun x M1 => .opt (ssetW x) M1
  | .tostr a, s, M => (evE C a s M).bind fun x M1 => .opt (tostrW x) M1
  | .min3 a b c, s, M => (evE C a s M).bind fun x M1 => (evE C b s M1).bind fun y M2 => (evE C c s M2).bind fun z M3 => match x, y, z with
    | .v (.int i), .v (.int j), .v (.int k) => .ok (.v (.int (min (min i j) k))) M3
    | _, _, _ => .no
  | .dupd o k v tg it c ws, s, M => (evE C o s M).bind fun w M1 => if (match w with
      | .v (.ref n) => match M1[n]? with
        | some (.dct _) => true
        | _ => false
      | _ => false) = false then .no else (evI C it s M1).bind fun p M2 => (compL (fun d M3 => match asgT tg d (wipeE s ws) with
    | none => .no
    | some s1 => (evT C c s1 M3).bind fun b M4 => match b with
      | false => .ok none M4
      | true => (evE C k s1 M4).bind fun kx M5 => (evE C v s1 M5).put.bind fun vx M6 => match kx with
        | .v kd => match keyD kd with
          | some _ => .ok (some (.tup [kd, vx])) M6
          | none => .no
        | _ => .no) p.2 p.1 M2).bind fun l M7 => match w with
    | .v (.ref n) => match M7[n]? with
      | some (.dct d) => if d.length + l.length < 4096 then match dPuts d l with
        | some d' => .ok (.v .non) (M7.set n (.dct d'))
        | none => .no
        else .no
      | _ => .no
    | _ => .no
  | .orl a b, s, M => (evE C a s M).bind fun x M1 => match asL M1 x with
    | some [] => (evE C b s M1).bind fun y M2 => match asL M2 y with
      | some _ => .ok y M2
      | none => .no
    | some _ => .ok x M1
    | none => .no
  | .mind a z, s, M => (evE C a s M).bind fun x M1 => .opt (mindW M1 x z) M1
  | .din neg x o, s, M => (evE C x s M).bind fun k M1 => (evE C o s M1).bind fun w M2 => match w, k with
    | .v (.ref n), .v d => match M2[n]?, keyD d with
      | some (.dct l), some k => .ok (.v (.bl (if neg = true then !(dLook l k).isSome else (dLook l k).isSome))) M2
      | _, _ => .no
    | _, _ => .no
  | .comp el tg it c ws, s, M => (evI C it s M).bind fun p M1 => (compL (fun d M2 => match asgT tg d (wipeE s ws) with
    | none => .no
    | some s1 => (evT C c s1 M2).bind fun b M3 => match b with
      | false => .ok none M3
      | true => (evE C el s1 M3).put.bind fun x M4 => .ok (some x) M4) p.2 p.1 M1).bind fun l M2 => .ok (.fl l) M2
def evEs (C : Cl) : Es → Env → Mem → Res (List D)
  | .nil, _, M => .ok [] M
  | .cons e r, s, M => (evE C e s M).put.bind fun d M1 => (evEs C r s M1).bind fun l M2 => .ok (d :: l) M2
/-- a part of a slice -/
def evO (C : Cl) : Eo → Env → Mem → Res (Option Int)
  | .none, _, M => .ok none M
  | .some e, s, M => (evE C e s M).bind fun x M1 => .opt ((toI x).map some) M1
/-- an if of a comprehension -/
def evT (C : Cl) : Eo → Env → Mem → Res Bool
  | .none, _, M => .ok true M
  | .some e, s, M => (evE C e s M).bind fun x M1 => .opt (toB x) M1
/-- what is walked: the things, and of which objects they are read -/
def evI (C : Cl) : I → Env → Mem → Res (List D × List (Nat × O))
  | .val e, s, M => (evE C e s M).bind fun x M1 => .opt ((asQ M1 x).map fun l => (l, srcs M1 x)) M1
  | .rng1 a, s, M => (evE C a s M).bind fun x M1 => .opt ((toI x).bind fun i => if RngOk 0 i then some (rngD 0 i, []) else none) M1
  | .rng2 a b, s, M => (evE C a s M).bind fun x M1 => (evE C b s M1).bind fun y M2 => .opt ((toI x).bind fun i => (toI y).bind fun j => if RngOk i j then some (rngD i j, []) else none) M2
  | .enum e, s, M => (evE C e s M).bind fun x M1 => .opt ((asQ M1 x).map fun l => (enumD 0 l, srcs M1 x)) M1
  | .zip2 a b, s, M => (evE C a s M).bind fun x M1 => (evE C b s M1).bind fun y M2 => .opt ((asQ M2 x).bind fun l => (asQ M2 y).map fun r => (zipD l r, srcs M2 x ++ srcs M2 y)) M2
  | .zip3 a b c, s, M => (evE C a s M).bind fun x M1 => (evE C b s M1).bind fun y M2 => (evE C c s M2).bind fun z M3 => .opt ((asQ M3 x).bind fun l => (asQ M3 y).bind fun r => (asQ M3 z).map fun t => (zipD3 l r t, srcs M3 x ++ srcs M3 y ++ srcs M3 z)) M3
  | .enz a b, s, M => (evE C a s M).bind fun x M1 => (evE C b s M1).bind fun y M2 => .opt ((asQ M2 x).bind fun l => (asQ M2 y).map fun r => (enumD 0 (zipD l r), srcs M2 x ++ srcs M2 y)) M2
end

mutual
def evS (C : Cl) : S → Env → Mem → Res Fl
  | .asg t e, s, M => (evE C e s M).bind fun w M1 => match asgW t M1 w s with
    | some (s', M') => .ok (.nx s') M'
    | none => .no
  | .par is es, s, M => (evEs C es s M).bind fun l M1 => match setAll s is l with
    | some s' => .ok (.nx s') M1
    | none => .no
  | .setix o i x, s, M => (evE C x s M).put.bind fun d M1 => (evE C o s M1).bind fun w M2 => (evE C i s M2).bind fun k M3 => match w, k with
    | .v (.ref n), .v (.int k) => match M3[n]? with
      | some (.lst l) => match seqIx l.length k with
        | some j => .ok (.nx s) (M3.set n (.lst (l.set j d)))
        | none => .no
      | _ => .no
    | _, _ => .no
  | .dset o i x, s, M => (evE C x s M).put.bind fun d M1 => (evE C o s M1).bind fun w M2 => (evE C i s M2).bind fun k M3 => match w, k with
    | .v (.ref n), .v k => match M3[n]?, keyD k with
      | some (.dct l), some k => if l.length < 16777216 then .ok (.nx s) (M3.set n (.dct (dPut l k d))) else .no
      | _, _ => .no
    | _, _ => .no
  | .augix f o i x, s, M => (evE C o s M).bind fun w M1 => (evE C i s M1).bind fun k M2 => match w, k with
    | .v (.ref n), .v (.int k) => match M2[n]? with
      | some (.lst l) => if k < 0 then .no else match seqIx l.length k with
        | some j => match l[j]? with
          | some (.int a) => (evE C x s M2).bind fun y M3 => match y with
            | .v (.int b) => match M3[n]? with
              | some (.lst l') => if l'.length = l.length then match f with
                | .add => .ok (.nx s) (M3.set n (.lst (l'.set j (.int (a + b)))))
                | .sub => .ok (.nx s) (M3.set n (.lst (l'.set j (.int (a - b)))))
                | _ => .no
                else .no
              | _ => .no
            | _ => .no
          | _ => .no
        | none => .no
      | _ => .no
    | _, _ => .no
  | .expr e, s, M => (evE C e s M).bind fun _ M1 => .ok (.nx s) M1
  | .ret e, s, M => (evE C e s M).bind fun w M1 => .ok (.rt w) M1
  | .retn, _, M => .ok (.rt (.v .non)) M
  | .ife c a b, s, M => (evE C c s M).bind fun x M1 => (Res.opt (toB x) M1).bind fun r M2 => match r with
    | true => evSs C a s M2
    | false => evSs C b s M2
  | .for_ t it b, s, M => (evI C it s M).bind fun p M1 => forL (fun d s1 M2 => match asgT t d s1 with
    | none => .no
    | some s2 => evSs C b s2 M2) p.2 p.1 s M1
  | .whl c b, s, M => whlL (fun s1 M1 => (evE C c s1 M1).bind fun x M2 => .opt (toB x) M2) (evSs C b) C.fuel s M
  | .cont, s, M => .ok (.ct s) M
  | .brk, s, M => .ok (.bk s) M
  | .pass, s, M => .ok (.nx s) M
def evSs (C : Cl) : Ss → Env → Mem → Res Fl
  | .nil, s, M => .ok (.nx s) M
  | .cons a r, s, M => (evS C a s M).bind fun f M1 => match f with
    | .nx s1 => evSs C r s1 M1
    | f => .ok f M1
end

/-! ### calls -/
structure FD where
  np : Nat
  ns : Nat
  body : Ss
/-- of what stood ahead all is as it was, or speaks of nothing new -/
def Pre (b : Nat) (M M1 : Mem) : Prop := ∀ i o, i < b → M1[i]? = some o → M[i]? = some o ∨ o.bel b = true
open Classical in
/-- what a call made is dropped where nobody can see it -/
def leave (M : Mem) (w : W) (M1 : Mem) : Res W :=
  if Pre M.length M M1 then
    if w.bel M.length = true then .ok w (M1.take M.length) else
      match w with
      | .v (.ref n) => match M1[n]? with
        | some (.lst l) => if D.bels M.length l = true then .ok (.fl l) (M1.take M.length) else .ok w M1
        | _ => .ok w M1
      | w => .ok w M1
  else .ok w M1
def runB (C : Cl) (fd : FD) (l : List D) (M : Mem) : Res W :=
  if l.length = fd.np then
    match evSs C fd.body (l.map some ++ List.replicate (fd.ns - fd.np) none) M with
    | .ok (.rt w) M1 => leave M w M1
    | .ok (.nx _) M1 => leave M (.v .non) M1
    | .ok _ _ => .no
    | .ex x M1 => .ex x M1
    | .no => .no
  else .no
def callF (defs : List FD) (glb : Nat → D) (fuel : Nat) : Nat → Nat → List D → Mem → Res W
  | 0, _, _, _ => .no
  | n + 1, f, l, M => match defs[f]? with
    | some fd => runB ⟨callF defs glb fuel n, glb, fuel⟩ fd l M
    | none => .no
end
end Ev

/-! EvB1: how data stand in the abstract heap. -/
namespace Ev
open PySem PySem.Spec PyProof.Rows L2

variable {K : PySem.W.Frag}

/-- tuples and known things stay -/
structure Hx (H H' : Hp) : Prop where
  tup : ∀ a xs, H a = some (.tup xs) → H' a = some (.tup xs)
  frz : ∀ a o u, H a = some (.frz o u) → H' a = some (.frz o u)
theorem Hx.refl {H : Hp} : Hx H H := ⟨fun _ _ h => h, fun _ _ _ h => h⟩
theorem Hx.trans {H H1 H2 : Hp} (a : Hx H H1) (b : Hx H1 H2) : Hx H H2 := ⟨fun x xs h => b.tup x xs (a.tup x xs h), fun x o u h => b.frz x o u (a.frz x o u h)⟩

/-- an exact tuple -/
def TupAt (H : Hp) (a : Addr) (vs : List V) : Prop := ∃ o, H a = some (.frz o (.tup vs)) ∧ o.dict = none
theorem TupAt.sq {H : Hp} {a : Addr} {vs : List V} (h : TupAt H a vs) : SqT K H a vs := let ⟨o, e, _⟩ := h; .inl (.inr ⟨o, e⟩)
theorem TupAt.hx {H H' : Hp} {a : Addr} {vs : List V} (g : Hx H H') (h : TupAt H a vs) : TupAt H' a vs := let ⟨o, e, d⟩ := h; ⟨o, g.frz _ _ _ e, d⟩
mutual
inductive RD (K : PySem.W.Frag) (r : List Addr) (H : Hp) : D → V → Prop
  | non : RD K r H .non .non
  | bl (b : Bool) : RD K r H (.bl b) (.bl b)
  | int (i : Int) : RD K r H (.int i) (.int i)
  | str (x : Str) : RD K r H (.str x) (.str x)
  | tup {l : List D} {a : Addr} {vs : List V} : TupAt H a vs → RDs K r H l vs → RD K r H (.tup l) (.ref a)
  | ref {n : Nat} {a : Addr} : r[n]? = some a → RD K r H (.ref n) (.ref a)
  | scr {l : List Int} {a : Addr} : (∀ H', Hx H H' → SqL K H' a (l.map V.int)) → RD K r H (.scr l) (.ref a)
inductive RDs (K : PySem.W.Frag) (r : List Addr) (H : Hp) : List D → List V → Prop
  | nil : RDs K r H [] []
  | cons {d : D} {l : List D} {v : V} {vs : List V} : RD K r H d v → RDs K r H l vs → RDs K r H (d :: l) (v :: vs)
end

theorem RDs.length {r : List Addr} {H : Hp} : ∀ {l : List D} {vs : List V}, RDs K r H l vs → l.length = vs.length
  | _, _, .nil => rfl
  | _, _, .cons _ t => by rw [List.length_cons, List.length_cons, RDs.length t]
theorem RDs.get {r : List Addr} {H : Hp} : ∀ {l : List D} {vs : List V} {i : Nat} {d : D}, RDs K r H l vs → l[i]? = some d → ∃ v, vs[i]? = some v ∧ RD K r H d v
  | _, _, _, _, .nil, h => by simp at h
  | _ :: _, _ :: _, 0, d, .cons a _, h => by
    rw [List.getElem?_cons_zero] at h
    cases h
    exact ⟨_, rfl, a⟩
  | _, _, i + 1, d, .cons _ t, h => by
    obtain ⟨v, h1, h2⟩ := RDs.get (i := i) (d := d) t (by simpa using h)
    exact ⟨v, by simpa using h1, h2⟩
theorem RDs.get' {r : List Addr} {H : Hp} : ∀ {l : List D} {vs : List V} {i : Nat} {v : V}, RDs K r H l vs → vs[i]? = some v → ∃ d, l[i]? = some d ∧ RD K r H d v
  | _, _, _, _, .nil, h => by simp at h
  | _ :: _, _ :: _, 0, v, .cons a _, h => by
    rw [List.getElem?_cons_zero] at h
    cases h
    exact ⟨_, rfl, a⟩
  | _, _, i + 1, v, .cons _ t, h => by
    obtain ⟨d, h1, h2⟩ := RDs.get' (i := i) (v := v) t (by simpa using h)
    exact ⟨d, by simpa using h1, h2⟩
theorem RDs.append {r : List Addr} {H : Hp} : ∀ {l : List D} {vs : List V} {l' : List D} {vs' : List V}, RDs K r H l vs → RDs K r H l' vs' → RDs K r H (l ++ l') (vs ++ vs')
  | _, _, _, _, .nil, b => b
  | _, _, _, _, .cons a t, b => .cons a (RDs.append t b)
theorem RDs.take {r : List Addr} {H : Hp} : ∀ {l : List D} {vs : List V} (n : Nat), RDs K r H l vs → RDs K r H (l.take n) (vs.take n)
  | _, _, 0, _ => by simpa using RDs.nil
  | _, _, n + 1, .nil => by simpa using RDs.nil
  | _, _, n + 1, .cons a t => by simpa using RDs.cons a (RDs.take n t)
theorem RDs.drop {r : List Addr} {H : Hp} : ∀ {l : List D} {vs : List V} (n : Nat), RDs K r H l vs → RDs K r H (l.drop n) (vs.drop n)
  | _, _, 0, h => by simpa using h
  | _, _, n + 1, .nil => by simpa using RDs.nil
  | _, _, n + 1, .cons a t => by simpa using RDs.drop n t
theorem RDs.set {r : List Addr} {H : Hp} {d : D} {v : V} (q : RD K r H d v) : ∀ {l : List D} {vs : List V} (n : Nat), RDs K r H l vs → RDs K r H (l.set n d) (vs.set n v)
  | _, _, 0, .nil => by simpa using RDs.nil
  | _, _, n + 1, .nil => by simpa using RDs.nil
  | _, _, 0, .cons a t => by simpa using RDs.cons q t
  | _, _, n + 1, .cons a t => by simpa using RDs.cons a (RDs.set q n t)
theorem RDs.eraseIdx {r : List Addr} {H : Hp} : ∀ {l : List D} {vs : List V} (n : Nat), RDs K r H l vs → RDs K r H (l.eraseIdx n) (vs.eraseIdx n)
  | _, _, _, .nil => by simpa using RDs.nil
  | _, _, 0, .cons a t => by simpa using t
  | _, _, n + 1, .cons a t => by simpa using RDs.cons a (RDs.eraseIdx n t)
theorem RDs.dropLast {r : List Addr} {H : Hp} {l : List D} {vs : List V} (h : RDs K r H l vs) : RDs K r H l.dropLast vs.dropLast := by
  rw [List.dropLast_eq_take, List.dropLast_eq_take, h.length]; exact h.take _
theorem RDs.ints {r : List Addr} {H : Hp} : ∀ (l : List Int), RDs K r H (l.map .int) (l.map .int)
  | [] => .nil
  | i :: r => .cons (.int i) (RDs.ints r)

/-- from one heap to a later one, from fewer places to more -/
structure Gr (r : List Addr) (H : Hp) (r' : List Addr) (H' : Hp) : Prop where
  x : Hx H H'
  p : ∀ (n : Nat) (a : Addr), r[n]? = some a → r'[n]? = some a
mutual
theorem RD.gr {r r' : List Addr} {H H' : Hp} (g : Gr r H r' H') : ∀ {d : D} {v : V}, RD K r H d v → RD K r' H' d v
  | _, _, .non => .non
  | _, _, .bl b => .bl b
  | _, _, .int i => .int i
  | _, _, .str x => .str x
  | _, _, .tup h t => .tup (h.hx g.x) (RDs.gr g t)
  | _, _, .ref h => .ref (g.p _ _ h)
  | _, _, .scr h => .scr fun H'' e => h H'' (g.x.trans e)
theorem RDs.gr {r r' : List Addr} {H H' : Hp} (g : Gr r H r' H') : ∀ {l : List D} {vs : List V}, RDs K r H l vs → RDs K r' H' l vs
  | _, _, .nil => .nil
  | _, _, .cons a t => .cons (RD.gr g a) (RDs.gr g t)
end

/-- an object stands at a place -/
def RO (K : PySem.W.Frag) (r : List Addr) (H : Hp) (a : Addr) : O → Prop
  | .lst l => ∃ vs, H a = some (.lst vs) ∧ RDs K r H l vs
  | .dct l => ∃ vs, H a = some (.dK ((l.map (·.1)).zip vs)) ∧ RDs K r H (l.map (·.2)) vs
  | .ins _ _ => False
theorem RO.not_tup {r : List Addr} {H : Hp} {a : Addr} {o : O} (h : RO K r H a o) (xs : List V) : H a ≠ some (.tup xs) := by
  intro e
  cases o with
  | lst l => obtain ⟨vs, h1, _⟩ := h; rw [e] at h1; cases h1
  | dct l => obtain ⟨vs, h1, _⟩ := h; rw [e] at h1; cases h1
  | ins c l => exact h
theorem RO.not_frz {r : List Addr} {H : Hp} {a : Addr} {o : O} (h : RO K r H a o) (x : Obj) (u : HO) : H a ≠ some (.frz x u) := by
  intro e
  cases o with
  | lst l => obtain ⟨vs, h1, _⟩ := h; rw [e] at h1; cases h1
  | dct l => obtain ⟨vs, h1, _⟩ := h; rw [e] at h1; cases h1
  | ins c l => exact h
theorem RO.gr {r r' : List Addr} {H H' : Hp} {a : Addr} {o : O} (g : Gr r H r' H') (e : H' a = H a) (h : RO K r H a o) : RO K r' H' a o := by
  cases o with
  | lst l => obtain ⟨vs, h1, h2⟩ := h; exact ⟨vs, e.trans h1, h2.gr g⟩
  | dct l => obtain ⟨vs, h1, h2⟩ := h; exact ⟨vs, e.trans h1, h2.gr g⟩
  | ins c l => exact h
/-- a memory stands in the abstract heap -/
structure RM (K : PySem.W.Frag) (r : List Addr) (H : Hp) (M : Mem) : Prop where
  len : r.length = M.length
  nd : r.Nodup
  obj : ∀ (n : Nat) (o : O), M[n]? = some o → ∃ a, r[n]? = some a ∧ RO K r H a o
theorem RM.at {r : List Addr} {H : Hp} {M : Mem} (m : RM K r H M) {n : Nat} {a : Addr} (h : r[n]? = some a) : ∃ o, M[n]? = some o ∧ RO K r H a o := by
  have hn : n < M.length := by rw [← m.len]; exact (List.getElem?_eq_some_iff.mp h).1
  obtain ⟨a', h1, h2⟩ := m.obj n M[n] (List.getElem?_eq_getElem hn)
  rw [h] at h1; cases h1
  exact ⟨_, List.getElem?_eq_getElem hn, h2⟩
theorem RM.mem {r : List Addr} {H : Hp} {M : Mem} (m : RM K r H M) {a : Addr} (h : a ∈ r) : ∃ (n : Nat) (o : O), r[n]? = some a ∧ M[n]? = some o ∧ RO K r H a o := by
  obtain ⟨n, hn, e⟩ := List.getElem_of_mem h
  have h1 : r[n]? = some a := by rw [List.getElem?_eq_getElem hn, e]
  obtain ⟨o, h2, h3⟩ := m.at h1
  exact ⟨n, o, h1, h2, h3⟩
theorem RM.there {r : List Addr} {H : Hp} {M : Mem} (m : RM K r H M) {a : Addr} (h : a ∈ r) : ∃ u, H a = some u := by
  obtain ⟨n, o, _, _, h3⟩ := m.mem h
  cases o with
  | lst l => obtain ⟨vs, h1, _⟩ := h3; exact ⟨_, h1⟩
  | dct l => obtain ⟨vs, h1, _⟩ := h3; exact ⟨_, h1⟩
  | ins c l => exact h3.elim
/-- what a piece of code may do: more places, which were free; what isn't ours stays -/
structure Stp (r : List Addr) (H : Hp) (r' : List Addr) (H' : Hp) : Prop where
  pre : r <+: r'
  new : ∀ a ∈ r', a ∈ r ∨ H a = none
  frame : ∀ a o, H a = some o → a ∉ r → H' a = some o
theorem Stp.refl {r : List Addr} {H : Hp} : Stp r H r H := ⟨List.prefix_rfl, fun _ h => .inl h, fun _ _ h _ => h⟩
theorem Stp.trans {r r1 r2 : List Addr} {H H1 H2 : Hp} (a : Stp r H r1 H1) (b : Stp r1 H1 r2 H2) : Stp r H r2 H2 := by
  refine ⟨a.pre.trans b.pre, fun x hx => ?_, fun x o h1 h2 => ?_⟩
  · rcases b.new x hx with h | h
    · exact a.new x h
    · by_cases hr : x ∈ r
      · exact .inl hr
      · right
        cases e : H x with
        | none => rfl
        | some o => rw [a.frame x o e hr] at h; cases h
  · refine b.frame x o (a.frame x o h1 h2) fun hx => ?_
    rcases a.new x hx with h | h
    · exact h2 h
    · rw [h1] at h; cases h
theorem Stp.hx {r r' : List Addr} {H H' : Hp} {M : Mem} (s : Stp r H r' H') (m : RM K r H M) : Hx H H' := by
  refine ⟨fun a xs h => s.frame a _ h fun hr => ?_, fun a o u h => s.frame a _ h fun hr => ?_⟩
  · obtain ⟨n, o, _, _, h3⟩ := m.mem hr; exact h3.not_tup xs h
  · obtain ⟨n, o', _, _, h3⟩ := m.mem hr; exact h3.not_frz o u h
theorem Stp.gr {r r' : List Addr} {H H' : Hp} {M : Mem} (s : Stp r H r' H') (m : RM K r H M) : Gr r H r' H' := by
  refine ⟨s.hx m, fun n a h => ?_⟩
  obtain ⟨t, e⟩ := s.pre
  rw [← e, List.getElem?_append_left (List.getElem?_eq_some_iff.mp h).1]; exact h
theorem Stp.was {r r' : List Addr} {H H' : Hp} {M M' : Mem} (s : Stp r H r' H') (m : RM K r H M) (m' : RM K r' H' M') {a : Addr} (h : H' a = none) : H a = none := by
  cases e : H a with
  | none => rfl
  | some o =>
    by_cases hr : a ∈ r
    · obtain ⟨u, e'⟩ := m'.there (s.pre.subset hr)
      rw [h] at e'; cases e'
    · rw [s.frame a o e hr] at h; cases h
/-- a value on its way; a list that nobody else has is new since H0 -/
def RW (K : PySem.W.Frag) (H0 : Hp) (r : List Addr) (H : Hp) : W → V → Prop
  | .v d, v => RD K r H d v
  | .fl l, v => ∃ a vs, v = .ref a ∧ H0 a = none ∧ H a = some (.lst vs) ∧ a ∉ r ∧ RDs K r H l vs
theorem RW.stp {r r' : List Addr} {H0 H H' : Hp} {M : Mem} {w : W} {v : V} (h : RW K H0 r H w v) (m : RM K r H M) (s : Stp r H r' H') : RW K H0 r' H' w v := by
  cases w with
  | v d => exact RD.gr (s.gr m) h
  | fl l =>
    obtain ⟨a, vs, e, h0, h1, h2, h3⟩ := h
    refine ⟨a, vs, e, h0, s.frame a _ h1 h2, fun hr => ?_, h3.gr (s.gr m)⟩
    rcases s.new a hr with h | h
    · exact h2 h
    · rw [h1] at h; cases h
theorem RW.back {r0 r1 r : List Addr} {H0 H1 H : Hp} {M0 M1 : Mem} {w : W} {v : V} (h : RW K H1 r H w v) (m0 : RM K r0 H0 M0) (m1 : RM K r1 H1 M1) (s : Stp r0 H0 r1 H1) : RW K H0 r H w v := by
  cases w with
  | v d => exact h
  | fl l =>
    obtain ⟨a, vs, e, h0, h1, h2, h3⟩ := h
    exact ⟨a, vs, e, s.was m0 m1 h0, h1, h2, h3⟩
/-- slots -/
structure RS (K : PySem.W.Frag) (r : List Addr) (H : Hp) (s : Env) (t : L2.St) : Prop where
  len : s.length = t.length
  at_ : ∀ (i : Nat) d, s[i]? = some (some d) → ∃ v, t[i]? = some (some v) ∧ RD K r H d v
theorem RS.gr {r r' : List Addr} {H H' : Hp} {s : Env} {t : L2.St} (g : Gr r H r' H') (h : RS K r H s t) : RS K r' H' s t :=
  ⟨h.len, fun i d e => let ⟨v, h1, h2⟩ := h.at_ i d e; ⟨v, h1, h2.gr g⟩⟩
theorem RS.set {r : List Addr} {H : Hp} {s : Env} {t : L2.St} {d : D} {v : V} (h : RS K r H s t) (q : RD K r H d v) (i : Nat) : RS K r H (s.set i (some d)) (t.set i (some v)) := by
  refine ⟨by rw [List.length_set, List.length_set, h.len], fun j e hj => ?_⟩
  by_cases hi : i = j
  · subst hi
    have hl : i < s.length := by
      have := (List.getElem?_eq_some_iff.mp hj).1
      simpa using this
    rw [List.getElem?_set_self hl] at hj
    cases hj
    exact ⟨v, List.getElem?_set_self (by rw [← h.len]; exact hl), q⟩
  · rw [List.getElem?_set_ne hi] at hj
    obtain ⟨w, h1, h2⟩ := h.at_ j e hj
    exact ⟨w, by rw [List.getElem?_set_ne hi]; exact h1, h2⟩
theorem RS.unset {r : List Addr} {H : Hp} {s : Env} {t : L2.St} (h : RS K r H s t) (i : Nat) : RS K r H (s.set i none) (t.set i none) := by
  refine ⟨by rw [List.length_set, List.length_set, h.len], fun j e hj => ?_⟩
  by_cases hi : i = j
  · subst hi
    by_cases hl : i < s.length
    · rw [List.getElem?_set_self hl] at hj; cases hj
    · rw [List.getElem?_eq_none (by simpa using hl)] at hj; cases hj
  · rw [List.getElem?_set_ne hi] at hj
    obtain ⟨w, h1, h2⟩ := h.at_ j e hj
    exact ⟨w, by rw [List.getElem?_set_ne hi]; exact h1, h2⟩
theorem RS.wipe {r : List Addr} {H : Hp} {s : Env} {t : L2.St} (h : RS K r H s t) : ∀ vs, RS K r H (wipeE s vs) (L2.wipe t vs)
  | [] => h
  | v :: vs => (RS.wipe h vs).unset v

/-! ### a memory that changes -/
/-- a new object -/
theorem RM.laid {r : List Addr} {H : Hp} {M : Mem} {p : Addr} {u : HO} {o : O} (m : RM K r H M) (hp : H p = none) (q : RO K (r ++ [p]) (upd H p u) p o) :
    RM K (r ++ [p]) (upd H p u) (M ++ [o]) ∧ Stp r H (r ++ [p]) (upd H p u) := by
  have hpr : p ∉ r := fun hr => by obtain ⟨u, e⟩ := m.there hr; rw [hp] at e; cases e
  have st : Stp r H (r ++ [p]) (upd H p u) := by
    refine ⟨List.prefix_append _ _, fun a ha => ?_, fun a o h1 h2 => ?_⟩
    · rcases List.mem_append.mp ha with h | h
      · exact .inl h
      · right; rw [List.mem_singleton.mp h]; exact hp
    · rw [upd_ne (ne_of_none h1 hp)]; exact h1
  refine ⟨⟨by simp [m.len], ?_, fun n x hx => ?_⟩, st⟩
  · refine List.nodup_append.mpr ⟨m.nd, by simp, fun a ha b hb e => ?_⟩
    rw [List.mem_singleton.mp hb] at e; subst e; exact hpr ha
  · by_cases hn : n < M.length
    · rw [List.getElem?_append_left hn] at hx
      obtain ⟨a, h1, h2⟩ := m.obj n x hx
      refine ⟨a, by rw [List.getElem?_append_left (by rw [m.len]; exact hn)]; exact h1, h2.gr (st.gr m) ?_⟩
      rw [upd_ne]
      intro e; subst e
      exact hpr (List.mem_of_getElem? h1)
    · have e : n = M.length := by
        have := (List.getElem?_eq_some_iff.mp hx).1
        simp at this; omega
      subst e
      rw [List.getElem?_append_right (Nat.le_refl _)] at hx
      simp at hx
      subst hx
      exact ⟨p, by rw [← m.len, List.getElem?_append_right (Nat.le_refl _)]; simp, q⟩
/-- a new thing that isn't ours -/
theorem Stp.fresh {r : List Addr} {H : Hp} {p : Addr} {u : HO} (hp : H p = none) : Stp r H r (upd H p u) :=
  ⟨List.prefix_rfl, fun _ h => .inl h, fun a o h1 _ => by rw [upd_ne (ne_of_none h1 hp)]; exact h1⟩
theorem RM.fresh {r : List Addr} {H : Hp} {M : Mem} {p : Addr} {u : HO} (m : RM K r H M) (hp : H p = none) : RM K r (upd H p u) M := by
  refine ⟨m.len, m.nd, fun n o h => ?_⟩
  obtain ⟨a, h1, h2⟩ := m.obj n o h
  refine ⟨a, h1, h2.gr ((Stp.fresh hp).gr m) ?_⟩
  obtain ⟨u', e⟩ := m.there (List.mem_of_getElem? h1)
  rw [upd_ne (ne_of_none e hp)]
/-- an object of ours changes -/
theorem RM.write {r : List Addr} {H : Hp} {M : Mem} {n : Nat} {p : Addr} {u : HO} {o : O} (m : RM K r H M) (hn : r[n]? = some p) (q : RO K r (upd H p u) p o) :
    RM K r (upd H p u) (M.set n o) ∧ Stp r H r (upd H p u) := by
  have hpr : p ∈ r := List.mem_of_getElem? hn
  have st : Stp r H r (upd H p u) := ⟨List.prefix_rfl, fun _ h => .inl h, fun a o h1 h2 => by rw [upd_ne (show a ≠ p from fun e => h2 (by rw [e]; exact hpr))]; exact h1⟩
  refine ⟨⟨by rw [List.length_set, m.len], m.nd, fun k x hx => ?_⟩, st⟩
  by_cases hk : n = k
  · subst hk
    have hl : n < M.length := by rw [← m.len]; exact (List.getElem?_eq_some_iff.mp hn).1
    rw [List.getElem?_set_self hl] at hx
    cases hx
    exact ⟨p, hn, q⟩
  · rw [List.getElem?_set_ne hk] at hx
    obtain ⟨a, h1, h2⟩ := m.obj k x hx
    refine ⟨a, h1, h2.gr (st.gr m) ?_⟩
    rw [upd_ne]
    intro e; subst e
    obtain ⟨l1, e1⟩ := List.getElem?_eq_some_iff.mp hn
    obtain ⟨l2, e2⟩ := List.getElem?_eq_some_iff.mp h1
    exact hk ((List.getElem_inj m.nd).mp (e1.trans e2.symm))

/-! ### what one wants of a piece of code -/
/-- r comes to a; for whatever stands for it Q holds -/
def Tm {α β : Type} (K : PySem.W.Frag) (f : Env → Mem → Res α) (R : Hp → List Addr → Hp → α → β → Prop) : L2.St → Hp → (β → Hp → Prop) → Prop := fun t H Q =>
  ∃ (s : Env) (M : Mem) (r : List Addr) (a : α) (M' : Mem), RS K r H s t ∧ RM K r H M ∧ f s M = .ok a M' ∧
    ∀ r' H' b, Stp r H r' H' → RM K r' H' M' → R H r' H' a b → Q b H'
def tE (K : PySem.W.Frag) (C : Cl) (e : E) : TE := Tm K (evE C e) (RW K)
def tD (K : PySem.W.Frag) (C : Cl) (e : E) : TE := Tm K (fun s M => (evE C e s M).put) (fun _ => RD K)
def tEs (K : PySem.W.Frag) (C : Cl) (e : Es) : TA := Tm K (evEs C e) (fun _ => RDs K)
def tO (K : PySem.W.Frag) (C : Cl) (e : Eo) : L2.St → Hp → (Option Int → Hp → Prop) → Prop := Tm K (evO C e) (fun _ _ _ a b => a = b)
def tB (K : PySem.W.Frag) (C : Cl) (e : E) : TT := Tm K (fun s M => (evE C e s M).bind fun x M1 => .opt (toB x) M1) (fun _ _ _ a b => a = b)

theorem bind_ok {α β : Type} {x : Res α} {f : α → Mem → Res β} {b : β} {M' : Mem} (h : x.bind f = .ok b M') : ∃ a M1, x = .ok a M1 ∧ f a M1 = .ok b M' := by
  cases x with
  | no => cases h
  | ok a M => exact ⟨a, M, rfl, h⟩
  | ex x M => cases h
theorem opt_ok {α : Type} {o : Option α} {M M' : Mem} {a : α} (h : Res.opt o M = .ok a M') : o = some a ∧ M' = M := by
  cases o with
  | none => cases h
  | some b => cases h; exact ⟨rfl, rfl⟩
theorem put_ok {x : Res W} {d : D} {M' : Mem} (h : x.put = .ok d M') : ∃ w M1, x = .ok w M1 ∧ (Ev.put w M1) = (d, M') := by
  obtain ⟨w, M1, h1, h2⟩ := bind_ok h
  injection h2 with h3 h4
  exact ⟨w, M1, h1, by rw [← h3, ← h4]⟩
theorem _root_.L2.PE.imp {X : Cx} {e : Expr} {t t' : TE} (h : PE X e t) (i : ∀ s H Q, t' s H Q → t s H Q) : PE X e t' := ⟨fun pins s σ H Q I q => h.run pins s σ H Q I (i σ H Q q)⟩
theorem _root_.L2.PT.imp {X : Cx} {e : Expr} {t t' : TT} (h : PT X e t) (i : ∀ s H Q, t' s H Q → t s H Q) : PT X e t' := ⟨fun pins s σ H Q I q => h.run pins s σ H Q I (i σ H Q q)⟩
theorem _root_.L2.PW.imp {X : Cx} {e : Expr} {t t' : TT} (h : PW X e t) (i : ∀ s H Q, t' s H Q → t s H Q) : PW X e t' := ⟨fun wh pins s σ H Q I q => h.run wh pins s σ H Q I (i σ H Q q)⟩
theorem _root_.L2.PA.imp {X : Cx} {e : List Expr} {t t' : TA} (h : PA X e t) (i : ∀ s H Q, t' s H Q → t s H Q) : PA X e t' := ⟨fun pos pins s σ H Q I q => h.run pos pins s σ H Q I (i σ H Q q)⟩
theorem _root_.L2.PS.imp {X : Cx} {e : Stmt} {t t' : TS} (h : PS X e t) (i : ∀ D s H, t' D s H → t D s H) : PS X e t' := ⟨fun pins s σ H Q I q => h.run pins s σ H Q I (i Q σ H q)⟩
theorem _root_.L2.PSs.imp {X : Cx} {e : List Stmt} {t t' : TS} (h : PSs X e t) (i : ∀ D s H, t' D s H → t D s H) : PSs X e t' := ⟨fun pins s σ H Q I q => h.run pins s σ H Q I (i Q σ H q)⟩
/-- a fresh list gets its place -/
theorem put_rep {r0 r : List Addr} {H0 H : Hp} {M0 M M' : Mem} {w : W} {d : D} {v : V} (m0 : RM K r0 H0 M0) (m : RM K r H M) (s : Stp r0 H0 r H) (h : RW K H0 r H w v) (e : Ev.put w M = (d, M')) :
    ∃ r', RM K r' H M' ∧ Stp r0 H0 r' H ∧ RD K r' H d v ∧ Gr r H r' H := by
  cases w with
  | v x =>
    cases e
    exact ⟨r, m, s, h, ⟨.refl, fun _ _ h => h⟩⟩
  | fl l =>
    cases e
    obtain ⟨a, vs, rfl, h0, h1, h2, h3⟩ := h
    have g : Gr r H (r ++ [a]) H := ⟨.refl, fun n x hx => by rw [List.getElem?_append_left (List.getElem?_eq_some_iff.mp hx).1]; exact hx⟩
    have ea : (r ++ [a])[M.length]? = some a := by rw [← m.len, List.getElem?_append_right (Nat.le_refl _)]; simp
    refine ⟨r ++ [a], ⟨by simp [m.len], ?_, fun n x hx => ?_⟩, ⟨s.pre.trans (List.prefix_append _ _), fun x hx => ?_, s.frame⟩, .ref ea, g⟩
    · refine List.nodup_append.mpr ⟨m.nd, by simp, fun x hx b hb e => ?_⟩
      rw [List.mem_singleton.mp hb] at e; subst e; exact h2 hx
    · by_cases hn : n < M.length
      · rw [List.getElem?_append_left hn] at hx
        obtain ⟨b, h4, h5⟩ := m.obj n x hx
        exact ⟨b, g.p _ _ h4, h5.gr g rfl⟩
      · have e : n = M.length := by
          have := (List.getElem?_eq_some_iff.mp hx).1
          simp at this; omega
        subst e
        rw [List.getElem?_append_right (Nat.le_refl _)] at hx
        simp at hx
        subst hx
        exact ⟨a, ea, vs, h1, h3.gr g⟩
    · rcases List.mem_append.mp hx with h | h
      · exact s.new x h
      · right; rw [List.mem_singleton.mp h]; exact h0
end Ev

/-! EvB2a: data with dicts in them, and what repr tells of them. -/
namespace Ev
open PySem PySem.Spec PyProof.Rows L2
mutual
/-- a value as data -/
inductive Dq (K : PySem.W.Frag) (H : Hp) : V → PyData → Prop
  | non : Dq K H .non .none
  | bl (b : Bool) : Dq K H (.bl b) (.bool b)
  | int (i : Int) : Dq K H (.int i) (.int i)
  | str (x : Str) : Dq K H (.str x) (.str x)
  | lst {a : Addr} {xs : List V} {ds : List PyData} : SqL K H a xs → DqAll K H xs ds → Dq K H (.ref a) (.list ds)
  | tup {a : Addr} {xs : List V} {ds : List PyData} : SqT K H a xs → DqAll K H xs ds → Dq K H (.ref a) (.tuple ds)
  | dct {a : Addr} {ks : List Key} {xs : List V} {ds : List PyData} : H a = some (.dK (ks.zip xs)) → ks.length = xs.length → DqAll K H xs ds → Dq K H (.ref a) (.dict ((ks.map keyPd).zip ds))
inductive DqAll (K : PySem.W.Frag) (H : Hp) : List V → List PyData → Prop
  | nil : DqAll K H [] []
  | cons {v : V} {vs : List V} {d : PyData} {ds : List PyData} : Dq K H v d → DqAll K H vs ds → DqAll K H (v :: vs) (d :: ds)
end
mutual
/-- a value as data in a heap; no dict is the table of modules -/
inductive Rs (h : Heap) : Value → PyData → Prop
  | none : Rs h .none .none
  | bool (b) : Rs h (.bool b) (.bool b)
  | int (i t) : Rs h (.int i t) (.int i)
  | str (x t) : Rs h (.str x t) (.str x)
  | list {a o vs n xs} : h.get? a = some o → o.cls = .type "list" → o.data = .seq vs n → RsAll h vs.toList xs → Rs h (.ref a) (.list xs)
  | tuple {a o vs n xs} : h.get? a = some o → o.cls = .type "tuple" → o.data = .seq vs n → RsAll h vs.toList xs → Rs h (.ref a) (.tuple xs)
  | dict {a o es n kvs} : h.get? a = some o → o.cls = .type "dict" → o.data = .dict es n → (a == sysModules) = false → RsAll h (es.toList.map (·.key)) (kvs.map (·.1)) →
      RsAll h (es.toList.map (·.val)) (kvs.map (·.2)) → Rs h (.ref a) (.dict kvs)
inductive RsAll (h : Heap) : List Value → List PyData → Prop
  | nil : RsAll h [] []
  | cons {v vs d ds} : Rs h v d → RsAll h vs ds → RsAll h (v :: vs) (d :: ds)
end
mutual
theorem Rs.reads {h : Heap} : ∀ {v : Value} {d : PyData}, Rs h v d → ∃ as, Reads h v d as
  | _, _, .none => ⟨_, .none⟩
  | _, _, .bool b => ⟨_, .bool b⟩
  | _, _, .int i t => ⟨_, .int i t⟩
  | _, _, .str x t => ⟨_, .str x t⟩
  | _, _, .list h1 h2 h3 h4 => let ⟨_, r⟩ := RsAll.reads h4; ⟨_, .list h1 h2 h3 r⟩
  | _, _, .tuple h1 h2 h3 h4 => let ⟨_, r⟩ := RsAll.reads h4; ⟨_, .tuple h1 h2 h3 r⟩
  | _, _, .dict h1 h2 h3 _ h4 h5 => let ⟨_, r⟩ := RsAll.reads h4; let ⟨_, r2⟩ := RsAll.reads h5; ⟨_, .dict h1 h2 h3 r r2⟩
theorem RsAll.reads {h : Heap} : ∀ {v : List Value} {d : List PyData}, RsAll h v d → ∃ as, ReadsAll h v d as
  | _, _, .nil => ⟨_, .nil⟩
  | _, _, .cons a t => let ⟨_, r⟩ := Rs.reads a; let ⟨_, r2⟩ := RsAll.reads t; ⟨_, .cons r r2⟩
end
theorem zip_fst' {α β : Type} : ∀ {l : List α} {m : List β}, l.length = m.length → (l.zip m).map (·.1) = l
  | [], [], _ => rfl
  | [], _ :: _, h => by cases h
  | _ :: _, [], h => by cases h
  | a :: l, b :: m, h => by rw [List.zip_cons_cons, List.map_cons, zip_fst' (by simpa using h)]
theorem zip_snd' {α β : Type} : ∀ {l : List α} {m : List β}, l.length = m.length → (l.zip m).map (·.2) = m
  | [], [], _ => rfl
  | [], _ :: _, h => by cases h
  | _ :: _, [], h => by cases h
  | a :: l, b :: m, h => by rw [List.zip_cons_cons, List.map_cons, zip_snd' (by simpa using h)]
theorem keys_rs {h : Heap} {P : Program} {w : World} : ∀ {es : List DictEntry} {ws : List (Key × Value)} {ks : List Key}, Pairs (mixKind P w) es ws → ws.map (·.1) = ks → RsAll h (es.map (·.key)) (ks.map keyPd)
  | _, _, _, .nil, e => by subst e; exact .nil
  | _, _, _, .cons (e := en) (kv := kv) k v t, e => by
    subst e
    simp only [List.map_cons]
    refine .cons ?_ (keys_rs t rfl)
    rcases keyIs_shape (show keyIs kv.1 en.key = true from k) with ⟨i, t, a, b⟩ | ⟨x, t, a, b⟩
    · rw [a, b]; exact .int i t
    · rw [a, b]; exact .str x t
theorem vals_pairs {P : Program} {w : World} : ∀ {es : List DictEntry} {ws : List (Key × Value)}, Pairs (mixKind P w) es ws → es.map (·.val) = ws.map (·.2)
  | _, _, .nil => rfl
  | _, _, .cons k v t => by rw [List.map_cons, List.map_cons, v, vals_pairs t]
theorem kv_split : ∀ {ks : List Key} {xs : List V} {ws : List (Key × Value)}, ks.length = xs.length → KV (ks.zip xs) ws → ws.map (·.1) = ks ∧ Vals xs (ws.map (·.2))
  | [], [], _, _, .nil => ⟨rfl, .nil⟩
  | [], _ :: _, _, h, _ => by cases h
  | _ :: _, [], _, h, _ => by cases h
  | k :: ks, x :: xs, _, h, .cons a t => by
    obtain ⟨e1, e2⟩ := kv_split (by simpa using h) t
    exact ⟨by rw [List.map_cons, e1, ← a.1], .cons a.2 e2⟩
theorem dqAll_len {K : PySem.W.Frag} {H : Hp} : ∀ {xs : List V} {ds : List PyData}, DqAll K H xs ds → xs.length = ds.length
  | _, _, .nil => rfl
  | _, _, .cons _ t => by rw [List.length_cons, List.length_cons, dqAll_len t]
section
variable {X : Cx} {pins : List (Addr × Obj)} {σ : L2.St} {H : Hp} {s : Shared}
mutual
theorem Dq.rs (I : Inv X pins σ H s) : ∀ {d : PyData} {v : V} {u : Value}, Dq X.K H v d → RelV v u → Rs s.heap u d
  | _, _, _, .non, r => by cases r; exact .none
  | _, _, _, .bl b, r => by cases r; exact .bool b
  | _, _, _, .int i, r => by obtain ⟨t, rfl⟩ := r; exact .int i t
  | _, _, _, .str x, r => by obtain ⟨t, rfl⟩ := r; exact .str x t
  | _, _, _, .lst hs ha, r => by
    cases r
    obtain ⟨its, rv, ⟨o, n, ho, hc, _, hd⟩, _⟩ := I.list hs
    exact .list ho hc hd (DqAll.rs I ha rv)
  | _, _, _, .tup hs ha, r => by
    cases r
    obtain ⟨its, rv, ⟨o, ho, hc, n, hd⟩, _⟩ := I.tuple hs
    exact .tuple ho hc hd (DqAll.rs I ha rv)
  | _, _, _, .dct (ks := ks) (xs := xs) (ds := ds) hs hl ha, r => by
    cases r
    obtain ⟨_, lo, ws, rel, o, es, ep, ho, hx, hd, _, hp, _⟩ := dk_of I.hok hs
    obtain ⟨e1, e2⟩ := kv_split hl rel
    have el : (ks.map keyPd).length = ds.length := by rw [List.length_map, hl, dqAll_len ha]
    refine .dict ho hx.1 hd lo ?_ ?_
    · rw [zip_fst' el]; exact keys_rs hp e1
    · rw [zip_snd' el, vals_pairs hp]; exact DqAll.rs I ha e2
theorem DqAll.rs (I : Inv X pins σ H s) : ∀ {ds : List PyData} {vs : List V} {us : List Value}, DqAll X.K H vs ds → Vals vs us → RsAll s.heap us ds
  | _, _, _, .nil, r => by cases r; exact .nil
  | _, _, _, .cons a t, r => by
    cases r with
    | cons r1 r2 => exact .cons (Dq.rs I a r1) (DqAll.rs I t r2)
end
theorem Dq.reads (I : Inv X pins σ H s) (d : PyData) (v : V) (u : Value) (h : Dq X.K H v d) (r : RelV v u) : ∃ as, Reads s.heap u d as := (h.rs I r).reads
end
/-! ### repr -/
section
variable {prog : Program} {w : World} {h₀ : Heap}
mutual
theorem Rs.reprK : ∀ {v : Value} {d : PyData}, Rs h₀ v d → d.showable = true → d.shown.length ≤ sizeLine → ∃ bs, ReadAtMost h₀ d.depth bs ∧ ReprK prog w bs h₀ d.depth v d.shown
  | _, _, .none, _, _ => ⟨[], (fun _ h => nomatch h), by simp only [PyData.shown]; exact .of_is ReprIs.none _ _ _⟩
  | _, _, .bool b, _, _ => ⟨[], (fun _ h => nomatch h), by simp only [PyData.shown]; exact .of_is (ReprIs.bool b) _ _ _⟩
  | _, _, .int i t, hs, _ => ⟨[], (fun _ h => nomatch h), by simp only [PyData.shown]; exact .of_is (ReprIs.int t (by simpa [PyData.showable] using hs)) _ _ _⟩
  | _, _, .str x t, hs, hz => ⟨[], (fun _ h => nomatch h), by simp only [PyData.shown]; exact .of_is (ReprIs.str x t (by simpa only [PyData.shown] using hz)) _ _ _⟩
  | _, _, .list (a := a) (vs := vs) (xs := xs) h1 h2 h3 h4, hs, hz => by
    have hz' : (listText (PyData.shownAll xs)).length ≤ sizeLine := by simpa only [PyData.shown] using hz
    obtain ⟨bs, hb, hk⟩ := RsAll.reprK h4 (by simpa [PyData.showable] using hs) (fun t ht => Nat.le_trans (listText_mem_le ht) hz')
    obtain ⟨_, r⟩ := (Rs.list h1 h2 h3 h4).reads
    have hna : a ∉ bs := not_mem_of_deeper r (by simp only [PyData.depth]; omega) hb
    refine ⟨a :: bs, ReadAtMost.cons r (by simp only [PyData.depth]; omega) hb, ?_⟩
    simp only [PyData.depth, PyData.shown]
    obtain ⟨l⟩ := vs
    cases l with
    | nil =>
      have h4' : RsAll h₀ [] xs := h4
      cases h4'
      simp only [PyData.shownAll, listText_nil]
      exact ReprK.listEmpty h1 h2 h3
    | cons x l => exact ReprK.list h1 h2 h3 hna (by simpa using hk.length_eq) (fun i y e => hk.item i y (by simpa using e))
  | _, _, .tuple (a := a) (xs := xs) h1 h2 h3 h4, hs, hz => by
    have hz' : (tupleText (PyData.shownAll xs)).length ≤ sizeLine := by simpa only [PyData.shown] using hz
    obtain ⟨bs, hb, hk⟩ := RsAll.reprK h4 (by simpa [PyData.showable] using hs) (fun t ht => Nat.le_trans (tupleText_mem_le ht) hz')
    obtain ⟨_, r⟩ := (Rs.tuple h1 h2 h3 h4).reads
    have hna : a ∉ bs := not_mem_of_deeper r (by simp only [PyData.depth]; omega) hb
    refine ⟨a :: bs, ReadAtMost.cons r (by simp only [PyData.depth]; omega) hb, ?_⟩
    simp only [PyData.depth, PyData.shown]
    exact ReprK.tuple h1 h2 h3 hna hk
  | _, _, .dict (a := a) (es := es) (kvs := kvs) h1 h2 h3 hsys h4 h5, hs, hz => by
    have hz' : (dictText (PyData.shownKv kvs)).length ≤ sizeLine := by simpa only [PyData.shown] using hz
    obtain ⟨hs1, hs2⟩ := PyData.showableKv_split kvs (by simpa [PyData.showable] using hs)
    obtain ⟨b1, hb1, k1⟩ := RsAll.reprK h4 hs1 (fun t ht => let ⟨p, hp, hl⟩ := PyData.shownKv_key_le kvs t ht; Nat.le_trans hl (Nat.le_trans (dictText_mem_le hp) hz'))
    obtain ⟨b2, hb2, k2⟩ := RsAll.reprK h5 hs2 (fun t ht => let ⟨p, hp, hl⟩ := PyData.shownKv_val_le kvs t ht; Nat.le_trans hl (Nat.le_trans (dictText_mem_le hp) hz'))
    obtain ⟨_, r⟩ := (Rs.dict h1 h2 h3 hsys h4 h5).reads
    have hb : ReadAtMost h₀ (PyData.depthKv kvs) (b1 ++ b2) := (hb1.mono (PyData.depthAll_keys_le kvs)).append (hb2.mono (PyData.depthAll_vals_le kvs))
    have hna : a ∉ b1 ++ b2 := not_mem_of_deeper r (by simp only [PyData.depth]; omega) hb
    refine ⟨a :: (b1 ++ b2), ReadAtMost.cons r (by simp only [PyData.depth]; omega) hb, ?_⟩
    simp only [PyData.depth, PyData.shown, PyData.shownKv_eq]
    exact ReprK.dict h1 h2 h3 hsys hna (ReprEntriesK.of_two es.toList _ _
      (k1.more_le (fun b hb => List.mem_append_left _ hb) (PyData.depthAll_keys_le kvs)) (k2.more_le (fun b hb => List.mem_append_right _ hb) (PyData.depthAll_vals_le kvs)))
theorem RsAll.reprK : ∀ {vs : List Value} {ds : List PyData}, RsAll h₀ vs ds → PyData.showableAll ds = true → (∀ t ∈ PyData.shownAll ds, t.length ≤ sizeLine) →
    ∃ bs, ReadAtMost h₀ (PyData.depthAll ds) bs ∧ ReprAllK prog w bs h₀ (PyData.depthAll ds) vs (PyData.shownAll ds)
  | _, _, .nil, _, _ => ⟨[], (fun _ h => nomatch h), by simp only [PyData.shownAll]; exact .nil⟩
  | _, _, .cons (d := d) (ds := ds) r rs, hs, hz => by
    have hs' : d.showable = true ∧ PyData.showableAll ds = true := by simpa [PyData.showableAll] using hs
    obtain ⟨b1, hb1, k1⟩ := Rs.reprK r hs'.1 (hz _ (by simp only [PyData.shownAll]; exact List.mem_cons_self ..))
    obtain ⟨b2, hb2, k2⟩ := RsAll.reprK rs hs'.2 (fun t ht => hz t (by simp only [PyData.shownAll]; exact List.mem_cons_of_mem _ ht))
    refine ⟨b1 ++ b2, ?_, ?_⟩
    · intro b hm
      simp only [PyData.depthAll]
      rcases List.mem_append.mp hm with hm | hm
      · obtain ⟨d', as', r', hd'⟩ := hb1 b hm
        exact ⟨d', as', r', Nat.le_trans hd' (Nat.le_max_left _ _)⟩
      · obtain ⟨d', as', r', hd'⟩ := hb2 b hm
        exact ⟨d', as', r', Nat.le_trans hd' (Nat.le_max_right _ _)⟩
    · simp only [PyData.depthAll, PyData.shownAll]
      exact .cons ((k1.more fun b hb => List.mem_append_left _ hb).level_le (Nat.le_max_left _ _)) (k2.more_le (fun b hb => List.mem_append_right _ hb) (Nat.le_max_right _ _))
end
theorem showsBy_rs {a : Addr} {d : PyData} (r : Rs h₀ (.ref a) d) (hs : d.showable = true) (hsz : d.shown.length ≤ sizeLine) : ∃ T idr, ShowsBy prog w h₀ a d T idr := by
  cases r with
  | list h1 h2 h3 h4 =>
    rename_i o vs n xs
    have hz' : (listText (PyData.shownAll xs)).length ≤ sizeLine := by simpa only [PyData.shown] using hsz
    obtain ⟨bs, hb, hk⟩ := RsAll.reprK (prog := prog) (w := w) h4 (by simpa [PyData.showable] using hs) (fun t ht => Nat.le_trans (listText_mem_le ht) hz')
    obtain ⟨_, r⟩ := (Rs.list h1 h2 h3 h4).reads
    have hna : a ∉ bs := not_mem_of_deeper r (by simp only [PyData.depth]; omega) hb
    refine ⟨"list", "list.__repr__", F.slot_list_repr.toG, F.slot_list_str, F.slot_list_format, fun s hk0 => ⟨o, hk0 _ _ h1, h2⟩, fun A E s Q hg hu hk0 hQ => ?_⟩
    simp only [PyData.depth] at hu
    simp only [PyData.shown] at hQ
    obtain ⟨l⟩ := vs
    cases l with
    | nil =>
      have h4' : RsAll h₀ [] xs := h4
      cases h4'
      simp only [PyData.shownAll, listText_nil] at hQ
      exact call_list_repr_empty ⟨o, hk0 _ _ h1, h2⟩ (hk0 _ _ h1) h3 (hQ s.heap _ _ fun _ _ e => e)
    | cons x l =>
      exact call_list_reprK h1 h2 h3 hna (by simpa using hk.length_eq) (fun i y e => hk.item i y (by simpa using e)) hg (fun b _ => Clear.nil b) hu hk0 hQ hz'
  | tuple h1 h2 h3 h4 =>
    rename_i o vs n xs
    have hz' : (tupleText (PyData.shownAll xs)).length ≤ sizeLine := by simpa only [PyData.shown] using hsz
    obtain ⟨bs, hb, hk⟩ := RsAll.reprK (prog := prog) (w := w) h4 (by simpa [PyData.showable] using hs) (fun t ht => Nat.le_trans (tupleText_mem_le ht) hz')
    obtain ⟨_, r⟩ := (Rs.tuple h1 h2 h3 h4).reads
    have hna : a ∉ bs := not_mem_of_deeper r (by simp only [PyData.depth]; omega) hb
    refine ⟨"tuple", "tuple.__repr__", F.slot_tuple_repr, F.slot_tuple_str, F.slot_tuple_format, fun s hk0 => ⟨o, hk0 _ _ h1, h2⟩, fun A E s Q hg hu hk0 hQ => ?_⟩
    simp only [PyData.depth] at hu
    simp only [PyData.shown] at hQ
    exact call_tuple_reprK h1 h2 h3 hna hk hg (fun b _ => Clear.nil b) hu hk0 hQ hz'
  | dict h1 h2 h3 hsys h4 h5 =>
    rename_i o es n kvs
    have hz' : (dictText (PyData.shownKv kvs)).length ≤ sizeLine := by simpa only [PyData.shown] using hsz
    obtain ⟨hs1, hs2⟩ := PyData.showableKv_split kvs (by simpa [PyData.showable] using hs)
    obtain ⟨b1, hb1, k1⟩ := RsAll.reprK (prog := prog) (w := w) h4 hs1 (fun t ht => let ⟨p, hp, hl⟩ := PyData.shownKv_key_le kvs t ht; Nat.le_trans hl (Nat.le_trans (dictText_mem_le hp) hz'))
    obtain ⟨b2, hb2, k2⟩ := RsAll.reprK (prog := prog) (w := w) h5 hs2 (fun t ht => let ⟨p, hp, hl⟩ := PyData.shownKv_val_le kvs t ht; Nat.le_trans hl (Nat.le_trans (dictText_mem_le hp) hz'))
    obtain ⟨_, r⟩ := (Rs.dict h1 h2 h3 hsys h4 h5).reads
    have hb : ReadAtMost h₀ (PyData.depthKv kvs) (b1 ++ b2) := (hb1.mono (PyData.depthAll_keys_le kvs)).append (hb2.mono (PyData.depthAll_vals_le kvs))
    have hna : a ∉ b1 ++ b2 := not_mem_of_deeper r (by simp only [PyData.depth]; omega) hb
    refine ⟨"dict", "dict.__repr__", F.slot_dict_repr, F.slot_dict_str, F.slot_dict_format, fun s hk0 => ⟨o, hk0 _ _ h1, h2⟩, fun A E s Q hg hu hk0 hQ => ?_⟩
    simp only [PyData.depth] at hu
    simp only [PyData.shown, PyData.shownKv_eq] at hQ
    exact call_dict_reprK h1 h2 h3 hsys hna (ReprEntriesK.of_two es.toList _ _
      (k1.more_le (fun b hb => List.mem_append_left _ hb) (PyData.depthAll_keys_le kvs)) (k2.more_le (fun b hb => List.mem_append_right _ hb) (PyData.depthAll_vals_le kvs))) hg (fun b _ => Clear.nil b) hu hk0 hQ (by rw [← PyData.shownKv_eq]; exact hz')
variable {A : Around} {E : Value → Shared → Prop} {s : Shared} {Q : Value → Shared → Prop}
theorem repr_rs {a : Addr} {d : PyData} (r : Rs s.heap (.ref a) d) (hs : d.showable = true) (hg : A.guards = some []) (hu : A.units + (d.depth + 1) < cLine)
    (hQ : ∀ h' u tk, (∀ b o, s.heap.get? b = some o → h'.get? b = some o) → Q (.str d.shown u) { s with heap := h', toks := tk }) (hsz : d.shown.length ≤ sizeLine) : wpAny (model prog w) A (call (.builtin "repr") [.ref a]) Q E s := by
  obtain ⟨T, idr, S⟩ := showsBy_rs (prog := prog) (w := w) r hs hsz
  exact call_repr_slot (by omega) (S.typeIs s fun _ _ e => e) S.slotRepr (S.call A.in1 E s _ hg (by show A.units + 1 + d.depth < cLine; omega) (fun _ _ e => e) fun h' u tk hk => ⟨_, _, rfl, hQ h' u tk hk⟩)
end
end Ev

/-! EvB2: the operations. -/
namespace Ev
open PySem PySem.Spec PyProof.Rows L2

variable {K : PySem.W.Frag} {r : List Addr} {H : Hp} {M : Mem}

theorem line_eq : sizeLine = 16777216 := sizeLine_eq

/-! ### rows -/
theorem asM_rep {H0 : Hp} {a : W} {v : V} {l : List D} (m : RM K r H M) (h : RW K H0 r H a v) (e : asM M a = some l) : ∃ p vs, v = .ref p ∧ H p = some (.lst vs) ∧ RDs K r H l vs := by
  cases a with
  | fl l' =>
    cases e
    obtain ⟨p, vs, h1, _, h2, _, h3⟩ := h
    exact ⟨p, vs, h1, h2, h3⟩
  | v d =>
    cases d with
    | ref n =>
      cases h with
      | ref hn =>
        obtain ⟨o, h1, h2⟩ := m.at hn
        simp only [asM, h1] at e
        cases o with
        | lst l' =>
          cases e
          obtain ⟨vs, h3, h4⟩ := h2
          exact ⟨_, vs, rfl, h3, h4⟩
        | dct _ => cases e
        | ins _ _ => cases e
    | _ => cases e
theorem asL_rep {H0 : Hp} {a : W} {v : V} {l : List D} (m : RM K r H M) (h : RW K H0 r H a v) (e : asL M a = some l) : ∃ p vs, v = .ref p ∧ SqL K H p vs ∧ RDs K r H l vs := by
  cases a with
  | fl l' =>
    cases e
    obtain ⟨p, vs, h1, _, h2, _, h3⟩ := h
    exact ⟨p, vs, h1, SqL.of h2, h3⟩
  | v d =>
    cases d with
    | ref n =>
      cases h with
      | ref hn =>
        obtain ⟨o, h1, h2⟩ := m.at hn
        simp only [asL, h1] at e
        cases o with
        | lst l' =>
          cases e
          obtain ⟨vs, h3, h4⟩ := h2
          exact ⟨_, vs, rfl, SqL.of h3, h4⟩
        | dct _ => cases e
        | ins _ _ => cases e
    | scr l' =>
      cases e
      cases h with
      | scr hs => exact ⟨_, _, rfl, hs H .refl, .ints _⟩
    | _ => cases e
theorem asT_rep {H0 : Hp} {a : W} {v : V} {l : List D} (h : RW K H0 r H a v) (e : asT a = some l) : ∃ p vs, v = .ref p ∧ TupAt H p vs ∧ RDs K r H l vs := by
  cases a with
  | fl l' => cases e
  | v d =>
    cases d with
    | tup l' =>
      cases e
      cases h with
      | tup h1 h2 => exact ⟨_, _, rfl, h1, h2⟩
    | _ => cases e
theorem asQ_rep {H0 : Hp} {a : W} {v : V} {l : List D} (m : RM K r H M) (h : RW K H0 r H a v) (e : asQ M a = some l) :
    ∃ p vs, v = .ref p ∧ ((asT a = some l ∧ TupAt H p vs) ∨ (asT a = none ∧ asL M a = some l ∧ SqL K H p vs)) ∧ RDs K r H l vs := by
  unfold asQ at e
  cases ht : asT a with
  | some l' =>
    rw [ht] at e
    cases e
    obtain ⟨p, vs, h1, h2, h3⟩ := asT_rep h ht
    exact ⟨p, vs, h1, .inl ⟨rfl, h2⟩, h3⟩
  | none =>
    rw [ht] at e
    obtain ⟨p, vs, h1, h2, h3⟩ := asL_rep m h e
    exact ⟨p, vs, h1, .inr ⟨rfl, e, h2⟩, h3⟩

/-! ### data -/
mutual
theorem pdR_dp {f : Nat → Option PyData} (hf : ∀ (n : Nat) (a : Addr) p, f n = some p → r[n]? = some a → Dq K H (.ref a) p) : ∀ (d : D) (v : V) (p : PyData), d.pdR f = some p → RD K r H d v → Dq K H v p
  | .non, _, _, e, h => by
    cases h
    simp only [D.pdR] at e
    cases e
    exact .non
  | .bl b, _, _, e, h => by
    cases h
    simp only [D.pdR] at e
    cases e
    exact .bl b
  | .int b, _, _, e, h => by
    cases h
    simp only [D.pdR] at e
    cases e
    exact .int b
  | .str b, _, _, e, h => by
    cases h
    simp only [D.pdR] at e
    cases e
    exact .str b
  | .tup l, _, _, e, h => by
    simp only [D.pdR] at e
    cases h with
    | tup h1 h2 =>
      cases q : D.pdRs f l with
      | none => rw [q] at e; cases e
      | some ds =>
        rw [q] at e
        cases e
        exact .tup h1.sq (pdRs_dp hf l _ ds q h2)
  | .ref n, _, _, e, h => by
    simp only [D.pdR] at e
    cases h with
    | ref h1 => exact hf n _ _ e h1
  | .scr l, _, _, e, h => by
    simp only [D.pdR] at e
    cases e
    cases h with
    | scr h1 =>
      refine .lst (h1 H .refl) ?_
      clear h1
      induction l with
      | nil => exact .nil
      | cons i t ih => exact .cons (.int i) ih
theorem pdRs_dp {f : Nat → Option PyData} (hf : ∀ (n : Nat) (a : Addr) p, f n = some p → r[n]? = some a → Dq K H (.ref a) p) : ∀ (l : List D) (vs : List V) (ps : List PyData), D.pdRs f l = some ps → RDs K r H l vs → DqAll K H vs ps
  | [], _, _, e, h => by
    cases h
    simp only [D.pdRs] at e
    cases e
    exact .nil
  | d :: l, _, _, e, h => by
    simp only [D.pdRs] at e
    cases h with
    | cons h1 h2 =>
      cases q1 : D.pdR f d with
      | none => rw [q1] at e; cases e
      | some x =>
        cases q2 : D.pdRs f l with
        | none => rw [q1, q2] at e; cases e
        | some xs =>
          rw [q1, q2] at e
          cases e
          exact .cons (pdR_dp hf d _ _ q1 h1) (pdRs_dp hf l _ _ q2 h2)
end
theorem refPd_dp (m : RM K r H M) : ∀ (k n : Nat) (a : Addr) p, refPd M k n = some p → r[n]? = some a → Dq K H (.ref a) p
  | 0, _, _, _, e, _ => by cases e
  | k + 1, n, a, p, e, h => by
    obtain ⟨o, h1, h2⟩ := m.at h
    simp only [refPd, h1] at e
    cases o with
    | lst l =>
      obtain ⟨vs, h3, h4⟩ := h2
      cases q : D.pdRs (refPd M k) l with
      | none => simp only [q] at e; cases e
      | some ds =>
        simp only [q] at e
        cases e
        exact .lst (SqL.of h3) (pdRs_dp (refPd_dp m k) l vs ds q h4)
    | dct l =>
      obtain ⟨vs, h3, h4⟩ := h2
      cases q : D.pdRs (refPd M k) (l.map (·.2)) with
      | none => simp only [q] at e; cases e
      | some ds =>
        simp only [q] at e
        cases e
        have z := Dq.dct h3 (by rw [List.length_map, ← h4.length, List.length_map]) (pdRs_dp (refPd_dp m k) _ vs ds q h4)
        rw [List.map_map] at z
        exact z
    | ins _ _ => cases e
theorem pdD_dp (m : RM K r H M) {d : D} {v : V} {p : PyData} (e : pdD M d = some p) (h : RD K r H d v) : Dq K H v p := pdR_dp (refPd_dp m 4) d v p e h
theorem pdW_dp {H0 : Hp} (m : RM K r H M) {d : W} {v : V} {p : PyData} (e : pdW M d = some p) (h : RW K H0 r H d v) : Dq K H v p := by
  cases d with
  | v d => exact pdD_dp m e h
  | fl l =>
    obtain ⟨a, vs, rfl, _, h2, _, h3⟩ := h
    simp only [pdW] at e
    cases q : D.pdRs (refPd M 4) l with
    | none => rw [q] at e; cases e
    | some ds =>
      rw [q] at e
      cases e
      exact .lst (SqL.of h2) (pdRs_dp (refPd_dp m 4) l vs ds q h3)

/-! ### what stands behind an operation -/
/-- two values come to a third -/
def rOp2 (K : PySem.W.Frag) (f : Mem → W → W → Option W) : R2 := fun x y H Q => ∃ (H0 : Hp) (r : List Addr) (M : Mem) (a b w : W), RM K r H M ∧ (∀ p, H p = none → H0 p = none) ∧ RW K H0 r H a x ∧ RW K H0 r H b y ∧ f M a b = some w ∧
  ∀ r' H' v, Stp r H r' H' → RM K r' H' M → RW K H0 r' H' w v → Q v H'
def rOp1 (K : PySem.W.Frag) (f : Mem → W → Option W) : V → Hp → VK → Prop := fun x H Q => ∃ (H0 : Hp) (r : List Addr) (M : Mem) (a w : W), RM K r H M ∧ (∀ p, H p = none → H0 p = none) ∧ RW K H0 r H a x ∧ f M a = some w ∧
  ∀ r' H' v, Stp r H r' H' → RM K r' H' M → RW K H0 r' H' w v → Q v H'
/-- a new list, a new tuple as an answer -/
theorem new_list {H0 : Hp} {l : List D} {vs : List V} {Q : VK} {p : Addr} (m : RM K r H M) (b : ∀ p, H p = none → H0 p = none) (h : RDs K r H l vs) (hp : H p = none)
    (q : ∀ r' H' v, Stp r H r' H' → RM K r' H' M → RW K H0 r' H' (.fl l) v → Q v H') : Q (.ref p) (upd H p (.lst vs)) :=
  q r _ _ (.fresh hp) (m.fresh hp) ⟨p, vs, rfl, b p hp, upd_same, (by intro hr; obtain ⟨u, e⟩ := m.there hr; rw [hp] at e; cases e), h.gr ((Stp.fresh hp).gr m)⟩
theorem new_tup {H0 : Hp} {l : List D} {vs : List V} {Q : VK} {p : Addr} {o : Obj} (m : RM K r H M) (h : RDs K r H l vs) (hp : H p = none) (hd : o.dict = none)
    (q : ∀ r' H' v, Stp r H r' H' → RM K r' H' M → RW K H0 r' H' (.v (.tup l)) v → Q v H') : Q (.ref p) (upd H p (.frz o (.tup vs))) :=
  q r _ _ (.fresh hp) (m.fresh hp) (.tup ⟨o, upd_same, hd⟩ (h.gr ((Stp.fresh hp).gr m)))
theorem same_val {H0 : Hp} {w : W} {v : V} {Q : VK} (m : RM K r H M) (h : RW K H0 r H w v) (q : ∀ r' H' v, Stp r H r' H' → RM K r' H' M → RW K H0 r' H' w v → Q v H') : Q v H :=
  q r H v .refl m h
theorem scalEq_rep {x y : D} {v u : V} {b : Bool} (e : scalEq x y = some b) (h1 : RD K r H x v) (h2 : RD K r H y u) : scal v u = true ∧ decide (v = u) = b := by
  cases h1 <;> cases h2 <;> simp [scalEq] at e <;> subst e <;> simp [scal]
section
variable {X : Cx}
/-- a new tuple as it is laid -/
abbrev TO (its : List Value) : Obj := { cls := .type "tuple", data := .seq its.toArray }
theorem laidT {pins : List (Addr × Obj)} {t : L2.St} {H : Hp} {s : Shared} {vs : List V} {its : List Value} (I : Inv X pins t H s) (rv : Vals vs its) (hz : vs.length ≤ sizeLine) :
    Inv X pins t (upd H s.heap.objs.size (.frz (TO its) (.tup vs))) { s with heap := s.heap.push (TO its) } :=
  I.laid (t' := s.toks) (o := .frz (TO its) (.tup vs)) (fun b ob q => Heap.get?_push_of_some _ q) (Nat.le_refl _) ⟨Heap.get?_push_size _ rfl, hz, its, rv, IsTup.new _ _⟩
def newT (vs : List V) (Q : VK) (H : Hp) : Prop := ∀ p o, H p = none → o.dict = none → Q (.ref p) (upd H p (.frz o (.tup vs)))
theorem gotT {pins : List (Addr × Obj)} {t : L2.St} {H : Hp} {s : Shared} {vs : List V} {its : List Value} {Q : VK} (I : Inv X pins t H s) (rv : Vals vs its) (hz : vs.length ≤ sizeLine) (q : newT vs Q H) :
    EP X pins t Q (.ref s.heap.objs.size) { s with heap := s.heap.push (TO its) } := ⟨.ref s.heap.objs.size, _, laidT I rv hz, rfl, q _ _ (I.hok.fresh (Nat.le_refl _)) rfl⟩
theorem op_catX : OpR X (binaryOp .Add) (fun x y H Q => ∃ a b xs ys, x = .ref a ∧ y = .ref b ∧ SqT X.K H a xs ∧ SqT X.K H b ys ∧ xs.length + ys.length ≤ sizeLine ∧
    (xs = [] → Q (.ref b) H) ∧ (xs ≠ [] → ys = [] → Q (.ref a) H) ∧ (xs ≠ [] → ys ≠ [] → newT (xs ++ ys) Q H)) := by
  intro pins s t H x y v u Q I rx ry h
  obtain ⟨a, b, xs, ys, rfl, rfl, ha, hb, hz, q0, q1, q2⟩ := h
  cases rx
  cases ry
  obtain ⟨i1, r1, p1, _⟩ := I.tuple ha
  obtain ⟨i2, r2, p2, _⟩ := I.tuple hb
  by_cases hx : xs = []
  · subst hx
    cases r1
    exact cat_tup0 p1 p2 ⟨.ref b, H, I, rfl, q0 rfl⟩
  · refine HT.cat_tup p1 p2 (fun z => hx (r1.nil_iff.mp z)) (fun z => ⟨.ref a, H, I, rfl, q1 hx (r2.nil_iff.mp z)⟩) (fun z => ?_) (by rw [← r1.length, ← r2.length]; exact hz)
    exact gotT I (r1.append r2) (by rw [List.length_append]; exact hz) (q2 hx fun w => z (r2.nil_iff.mpr w))
theorem sl_tupX : SlR X (fun x lo hi H Q => ∃ a xs, x = .ref a ∧ SqT X.K H a xs ∧ (HT.sIx xs.length 0 lo = 0 ∧ HT.sIx xs.length xs.length hi = xs.length → Q (.ref a) H) ∧ (¬ (HT.sIx xs.length 0 lo = 0 ∧ HT.sIx xs.length xs.length hi = xs.length) → newT (cutV xs lo hi) Q H)) := by
  intro pins s t H x v vl vu lo hi sl Q I rx hs pl pu h
  obtain ⟨a, xs, rfl, hx, q1, q2⟩ := h
  cases rx
  obtain ⟨its, rv, ht, hz⟩ := I.tuple hx
  have hl : its.toArray.size = xs.length := by rw [List.size_toArray]; exact rv.length.symm
  refine ⟨"tuple", _, PyProof.Rows.slot_tuple_getitem.lookup, ht.typeIs, ?_⟩
  by_cases hw : HT.sIx xs.length 0 lo = 0 ∧ HT.sIx xs.length xs.length hi = xs.length
  · exact getItem_tuple_whole ht hs pl pu (by rw [hl]; exact hw) ⟨.ref a, H, I, rfl, q1 hw⟩
  · refine HT.getItem_tuple_cut ht hs pl pu (by rw [hl]; exact hw) ?_ (by rw [hl]; exact hz)
    rw [hl]
    exact gotT I ((rv.drop (HT.sIx xs.length 0 lo)).take (HT.sIx xs.length xs.length hi - HT.sIx xs.length 0 lo)) (Nat.le_trans (cutV_length xs lo hi) hz) (q2 hw)
theorem op_repX : OpR X (binaryOp .Mult) (fun x y H Q => ∃ l k z, x = .ref l ∧ y = .int k ∧ SqT X.K H l [z] ∧ 2 ≤ k ∧ k ≤ 1000 ∧ newT (List.replicate k.toNat z) Q H) := by
  intro pins s t H x y v u Q I rx ry h
  obtain ⟨l, k, z, rfl, rfl, hT, h1, h2, q⟩ := h
  cases rx
  obtain ⟨tk, rfl⟩ := ry
  obtain ⟨its, rv, ⟨⟨cls, dd, data, sl⟩, ho, hc, n, hd⟩, hs⟩ := I.tuple hT
  simp only at hc hd
  subst hc hd
  obtain ⟨w, rfl, rw'⟩ := vals1 rv
  have e1 : (List.replicate k.toNat [w]).flatten = List.replicate k.toNat w := by
    generalize k.toNat = m
    induction m with
    | zero => rfl
    | succ m ih => rw [List.replicate_succ, List.flatten_cons, ih]; rfl
  have rr : Vals (List.replicate k.toNat z) (List.replicate k.toNat w) := by
    generalize k.toNat = m
    induction m with
    | zero => exact .nil
    | succ m ih => exact .cons rw' ih
  have sz : ((List.replicate k.toNat [w]).flatten.toArray).size ≤ sizeLine := by rw [e1, List.size_toArray, List.length_replicate, line_eq]; omega
  have big : Builtin.Tuple.tupleTooMany (((([w] : List Value).toArray.size : Nat) : Int) * k) = false := by
    unfold Builtin.Tuple.tupleTooMany
    rw [line_eq]
    exact decide_eq_false (by simp; omega)
  refine wpAny_binaryOp_repeat_ref (U := "int") (T := "tuple") (by decide) ⟨_, ho, rfl⟩ (fun s' => typeIs_int s' k tk) noFill_tuple_mul F.fills_int_mul F.slot_int_rmul repeat_tuple F.slot_int_index.lookup
    (call_meets F.slot_int_rmul (typeIs_int s k tk) F.entry_int_rmul (F.args_int_rmul_2 _ _) (int_rmul_tuple k tk l [w].toArray n dd sl)
      ⟨ho, rfl, ⟨_, ho, rfl⟩, call_meets F.slot_tuple_mul ⟨_, ho, rfl⟩ F.entry_tuple_mul (F.args_tuple_mul_2 _ _)
        (tuple_mulW l [w].toArray n dd sl k tk (by rw [decide_eq_false (by omega), decide_eq_false (by omega)]; rfl) (by show (false || k == 1) = false; rw [Bool.false_or]; exact beq_eq_false_iff_ne.mpr (by omega))
          (by show (decide (k ≤ 0) || false) = false; rw [Bool.or_false]; exact decide_eq_false (by omega)) (by simp; omega) big (by rw [size_rep]; exact sz)) ⟨ho, ?_⟩⟩)
  rw [size_rep, e1]
  exact gotT I rr (by rw [List.length_replicate, line_eq]; omega) q
theorem op_eqG (hu : X.A.units + 64 < cLine) : OpR X (compareOp .Eq) (fun x y H Q => ∃ d e, Dq X.K H x d ∧ Dq X.K H y e ∧ d.canLay0 = true ∧ e.canLay0 = true ∧ min d.depth e.depth ≤ 64 ∧ Q (.bl (d.eqv e)) H) := by
  intro pins s t H x y v u Q I rx ry h
  obtain ⟨d, e, hd, he, sd, se, hm, q⟩ := h
  obtain ⟨as, r1⟩ := Dq.reads I d x v hd rx
  obtain ⟨bs, r2⟩ := Dq.reads I e y u he ry
  exact SeqAt.compareEq_reads r1 r2 sd se (by omega) ⟨.bl _, H, I, rfl, q⟩
theorem op_neG (hu : X.A.units + 64 < cLine) : OpR X (compareOp .NotEq) (fun x y H Q => ∃ d e, Dq X.K H x d ∧ Dq X.K H y e ∧ d.canLay0 = true ∧ e.canLay0 = true ∧ min d.depth e.depth ≤ 64 ∧ Q (.bl (!d.eqv e)) H) := by
  intro pins s t H x y v u Q I rx ry h
  obtain ⟨d, e, hd, he, sd, se, hm, q⟩ := h
  obtain ⟨as, r1⟩ := Dq.reads I d x v hd rx
  obtain ⟨bs, r2⟩ := Dq.reads I e y u he ry
  exact SeqAt.compareNe_reads r1 r2 sd se (by omega) ⟨.bl _, H, I, rfl, q⟩
theorem pdEq_some {a b : Option PyData} {z : Bool} (h : pdEq a b = some z) : ∃ d e, a = some d ∧ b = some e ∧ d.canLay0 = true ∧ e.canLay0 = true ∧ min d.depth e.depth ≤ 64 ∧ d.eqv e = z := by
  cases a with
  | none => cases h
  | some d =>
    cases b with
    | none => cases h
    | some e =>
      simp only [pdEq] at h
      split at h
      · rename_i c
        cases h
        exact ⟨d, e, rfl, rfl, c.1, c.2.1, c.2.2, rfl⟩
      · cases h
/-- a tuple beside an empty one, by values -/
def NilV (K : PySem.W.Frag) (H : Hp) (x y : V) (z : Bool) : Prop := ∃ p q xs, x = .ref p ∧ y = .ref q ∧ SqT K H p xs ∧ SqT K H q [] ∧ xs.isEmpty = z
theorem eqNil_rep {d e : D} {x y : V} {z : Bool} (h1 : RD K r H d x) (h2 : RD K r H e y) (h : eqNil d e = some z) : NilV K H x y z := by
  unfold eqNil at h
  split at h
  · rename_i l
    cases h
    cases h1 with
    | tup t1 r1 =>
      cases h2 with
      | tup t2 r2 =>
        cases r2
        refine ⟨_, _, _, rfl, rfl, t1.sq, t2.sq, ?_⟩
        cases r1 <;> rfl
  · cases h
theorem op_eqNil (hu : X.A.units + 64 < cLine) : OpR X (compareOp .Eq) (fun x y H Q => ∃ z, NilV X.K H x y z ∧ Q (.bl z) H) := by
  intro pins s t H x y v u Q I rx ry h
  obtain ⟨z, ⟨p, q, xs, rfl, rfl, h1, h2, rfl⟩, fin⟩ := h
  cases rx
  cases ry
  obtain ⟨i1, r1, p1, _⟩ := I.tuple h1
  obtain ⟨i2, r2, p2, _⟩ := I.tuple h2
  cases r2
  refine SeqAt.eq_tupleAt (e := fun _ => true) p1 p2 (by omega) (fun j h1 h2 => absurd h2 (by simp)) ?_
  have e : ((List.range (min i1.toArray.size ([] : List Value).toArray.size)).all (fun _ => true) && i1.toArray.size == ([] : List Value).toArray.size) = xs.isEmpty := by
    cases r1 <;> simp
  rw [e]
  exact ⟨.bl _, H, I, rfl, fin⟩
theorem op_neNil (hu : X.A.units + 64 < cLine) : OpR X (compareOp .NotEq) (fun x y H Q => ∃ z, NilV X.K H x y z ∧ Q (.bl (!z)) H) := by
  intro pins s t H x y v u Q I rx ry h
  obtain ⟨z, ⟨p, q, xs, rfl, rfl, h1, h2, rfl⟩, fin⟩ := h
  cases rx
  cases ry
  obtain ⟨i1, r1, p1, _⟩ := I.tuple h1
  obtain ⟨i2, r2, p2, _⟩ := I.tuple h2
  cases r2
  have e : ((List.range (min i1.toArray.size ([] : List Value).toArray.size)).all (fun _ => true) && i1.toArray.size == ([] : List Value).toArray.size) = xs.isEmpty := by
    cases r1 <;> simp
  have z := SeqAt.RcNeAt.tuples (A := X.A) (s := s) (e := fun _ => true) p1 p2 (by omega) (fun j h1 h2 => absurd h2 (by simp))
  rw [e] at z
  exact z _ _ _ _ ⟨.bl _, H, I, rfl, fin⟩
theorem eqW_cases {H0 : Hp} {a b : W} {x y : V} {z : Bool} (m : RM K r H M) (ha : RW K H0 r H a x) (hb : RW K H0 r H b y) (h : eqW M a b = some z) :
    (scal x y = true ∧ decide (x = y) = z) ∨ NilV K H x y z ∨ ∃ d e, Dq K H x d ∧ Dq K H y e ∧ d.canLay0 = true ∧ e.canLay0 = true ∧ min d.depth e.depth ≤ 64 ∧ d.eqv e = z := by
  have gen : pdEq (pdW M a) (pdW M b) = some z → ∃ d e, Dq K H x d ∧ Dq K H y e ∧ d.canLay0 = true ∧ e.canLay0 = true ∧ min d.depth e.depth ≤ 64 ∧ d.eqv e = z := fun h => by
    obtain ⟨d, e, h1, h2, h3⟩ := pdEq_some h
    exact ⟨d, e, pdW_dp m h1 ha, pdW_dp m h2 hb, h3⟩
  cases a with
  | fl l => exact .inr (.inr (gen h))
  | v d =>
    cases b with
    | fl l => exact .inr (.inr (gen h))
    | v e =>
      simp only [eqW] at h
      cases q : scalEq d e with
      | some b =>
        rw [q] at h
        cases h
        exact .inl (scalEq_rep q ha hb)
      | none =>
        rw [q] at h
        cases q2 : pdEq (pdD M d) (pdD M e) with
        | some b =>
          simp only [q2] at h
          cases h
          exact .inr (.inr (gen q2))
        | none =>
          simp only [q2] at h
          exact .inr (.inl (eqNil_rep ha hb h))
theorem eqF_rep {x y : D} {v u : V} (h1 : RD K r H x v) (h2 : RD K r H y u) (f1 : x.flat = true) (f2 : y.flat = true) : eqV v u = eqF x y := by
  cases h1 <;> cases h2 <;> simp [eqV, eqF, D.flat] at f1 f2 ⊢ <;> rfl
theorem flat_rep {x : D} {v : V} (h1 : RD K r H x v) (f1 : x.flat = true) : flatV v = true := by
  cases h1 <;> simp [D.flat] at f1 <;> rfl
theorem flats_rep : ∀ {l : List D} {vs : List V}, RDs K r H l vs → l.all D.flat = true → vs.all flatV = true
  | _, _, .nil, _ => rfl
  | _, _, .cons a t, h => by
    rw [List.all_cons, Bool.and_eq_true] at h
    rw [List.all_cons, flat_rep a h.1, flats_rep t h.2]; rfl
theorem any_rep {x : D} {v : V} (h : RD K r H x v) (f : x.flat = true) : ∀ {l : List D} {vs : List V}, RDs K r H l vs → l.all D.flat = true → inV v vs = l.any fun y => eqF y x
  | _, _, .nil, _ => rfl
  | _, _, .cons a t, g => by
    rw [List.all_cons, Bool.and_eq_true] at g
    have ih := any_rep h f t g.2
    unfold inV at ih ⊢
    rw [List.any_cons, List.any_cons, ih, eqF_rep a h g.1 f]
theorem inQ_cases {H0 : Hp} {a b : W} {x y : V} {z : Bool} (m : RM K r H M) (ha : RW K H0 r H a x) (hb : RW K H0 r H b y) (h : inQ M a b = some z) :
    (∃ p xs, y = .ref p ∧ (SqL K H p xs ∨ SqT K H p xs) ∧ flatV x = true ∧ xs.all flatV = true ∧ inV x xs = z) ∨
    ∃ d ds, Dq K H x d ∧ (Dq K H y (.list ds) ∨ Dq K H y (.tuple ds)) ∧ SeqAt.shaped d = true ∧ SeqAt.shaped (.list ds) = true ∧ (ds.any fun q => q.eqv d) = z := by
  cases a with
  | fl l => cases e : asQ M b <;> simp [inQ, e] at h
  | v d =>
    cases e : asQ M b with
    | none => simp [inQ, e] at h
    | some l =>
      simp only [inQ, e] at h
      obtain ⟨p, vs, h1, h2, h3⟩ := asQ_rep m hb e
      split at h
      · rename_i c
        cases h
        refine .inl ⟨p, vs, h1, ?_, flat_rep ha c.1, flats_rep h3 c.2, any_rep ha c.1 h3 c.2⟩
        rcases h2 with ⟨_, h2⟩ | ⟨_, _, h2⟩
        · exact .inr h2.sq
        · exact .inl h2
      · cases q1 : pdD M d with
        | none => rw [q1] at h; cases h
        | some d' =>
          rw [q1] at h
          cases q2 : D.pdRs (refPd M 4) l with
          | none => rw [q2] at h; cases h
          | some ds =>
            rw [q2] at h
            simp only at h
            split at h
            · rename_i c
              cases h
              subst h1
              have da := pdRs_dp (refPd_dp m 4) l vs ds q2 h3
              refine .inr ⟨d', ds, pdD_dp m q1 ha, ?_, c.1, c.2, rfl⟩
              rcases h2 with ⟨h4, h2⟩ | ⟨h4, _, h2⟩
              · exact .inr (.tup h2.sq da)
              · exact .inl (.lst h2 da)
            · cases h
theorem op_inT {X : Cx} (hu : X.A.units + 65 < cLine) : OpR X (compareOp .In) (fun x y H Q => ∃ d ds, Dq X.K H x d ∧ Dq X.K H y (.tuple ds) ∧ SeqAt.shaped d = true ∧ SeqAt.shaped (.list ds) = true ∧ Q (.bl (ds.any fun q => q.eqv d)) H) := by
  intro pins s σ H x y v u Q I rx ry h
  obtain ⟨d, ds, hd, he, sd, se, q⟩ := h
  obtain ⟨as, r1⟩ := Dq.reads I d x v hd rx
  obtain ⟨bs, r2⟩ := Dq.reads I (.tuple ds) y u he ry
  exact SeqAt.in_tuple_reads r2 r1 (SeqAt.canLay_of_shaped se) (SeqAt.canLay_of_shaped sd) (room_in_shaped sd hu) ⟨.bl _, H, I, rfl, q⟩
theorem op_notInT {X : Cx} (hu : X.A.units + 65 < cLine) : OpR X (compareOp .NotIn) (fun x y H Q => ∃ d ds, Dq X.K H x d ∧ Dq X.K H y (.tuple ds) ∧ SeqAt.shaped d = true ∧ SeqAt.shaped (.list ds) = true ∧ Q (.bl (!ds.any fun q => q.eqv d)) H) := by
  intro pins s σ H x y v u Q I rx ry h
  obtain ⟨d, ds, hd, he, sd, se, q⟩ := h
  obtain ⟨as, r1⟩ := Dq.reads I d x v hd rx
  obtain ⟨bs, r2⟩ := Dq.reads I (.tuple ds) y u he ry
  exact SeqAt.notIn_tuple_reads r2 r1 (SeqAt.canLay_of_shaped se) (SeqAt.canLay_of_shaped sd) (room_in_shaped sd hu) ⟨.bl _, H, I, rfl, q⟩
theorem op_inL {X : Cx} (hu : X.A.units + 65 < cLine) : OpR X (compareOp .In) (fun x y H Q => ∃ d ds, Dq X.K H x d ∧ Dq X.K H y (.list ds) ∧ SeqAt.shaped d = true ∧ SeqAt.shaped (.list ds) = true ∧ Q (.bl (ds.any fun q => q.eqv d)) H) := by
  intro pins s σ H x y v u Q I rx ry h
  obtain ⟨d, ds, hd, he, sd, se, q⟩ := h
  obtain ⟨as, r1⟩ := Dq.reads I d x v hd rx
  obtain ⟨bs, r2⟩ := Dq.reads I (.list ds) y u he ry
  exact SeqAt.in_list_reads r2 r1 (SeqAt.canLay_of_shaped se) (SeqAt.canLay_of_shaped sd) (room_in_shaped sd hu) ⟨.bl _, H, I, rfl, q⟩
theorem op_notInL {X : Cx} (hu : X.A.units + 65 < cLine) : OpR X (compareOp .NotIn) (fun x y H Q => ∃ d ds, Dq X.K H x d ∧ Dq X.K H y (.list ds) ∧ SeqAt.shaped d = true ∧ SeqAt.shaped (.list ds) = true ∧ Q (.bl (!ds.any fun q => q.eqv d)) H) := by
  intro pins s σ H x y v u Q I rx ry h
  obtain ⟨d, ds, hd, he, sd, se, q⟩ := h
  obtain ⟨as, r1⟩ := Dq.reads I d x v hd rx
  obtain ⟨bs, r2⟩ := Dq.reads I (.list ds) y u he ry
  exact SeqAt.notIn_list_reads r2 r1 (SeqAt.canLay_of_shaped se) (SeqAt.canLay_of_shaped sd) (room_in_shaped sd hu) ⟨.bl _, H, I, rfl, q⟩
def pyC : Cop → CmpOp
  | .eq => .Eq | .ne => .NotEq | .lt => .Lt | .le => .LtE | .gt => .Gt | .ge => .GtE | .is => .Is | .isnot => .IsNot | .inn => .In | .notin => .NotIn
def cmpV (o : Cop) (M : Mem) (a b : W) : Option W := (cmpW o M a b).map fun r => .v (.bl r)
theorem ints2 {α : Type} {f : Int → Int → Option α} {z : α} {a b : W} (h : (match a, b with | .v (.int i), .v (.int j) => f i j | _, _ => none) = some z) : ∃ i j, a = .v (.int i) ∧ b = .v (.int j) ∧ f i j = some z := by
  split at h
  · exact ⟨_, _, rfl, rfl, h⟩
  · cases h
theorem ints_rep {H0 : Hp} {a b : W} {x y : V} {z : Bool} {f : Int → Int → Bool} (h : ∃ i j, a = .v (.int i) ∧ b = .v (.int j) ∧ some (f i j) = some z) (ha : RW K H0 r H a x) (hb : RW K H0 r H b y) :
    ∃ i j, x = .int i ∧ y = .int j ∧ f i j = z := by
  obtain ⟨i, j, rfl, rfl, h⟩ := h
  cases h
  cases ha
  cases hb
  exact ⟨_, _, rfl, rfl, rfl⟩
theorem op_cmp (hu : X.A.units + 65 < cLine) (o : Cop) : OpR X (compareOp (pyC o)) (rOp2 X.K (cmpV o)) := by
  intro pins s t H x y v u Q I rx ry h
  obtain ⟨H0, r, M, a, b, w, m, hb0, ha, hb, e, q⟩ := h
  unfold cmpV at e
  cases ez : cmpW o M a b with
  | none => rw [ez] at e; cases e
  | some z =>
    rw [ez] at e
    cases e
    have fin : Q (.bl z) H := q r H _ .refl m (.bl z)
    cases o with
    | eq =>
      rcases eqW_cases m ha hb ez with ⟨h1, h2⟩ | h1 | ⟨d, e, h1, h2, h3, h4, h5, h6⟩
      · exact op_eq pins s t H x y v u Q I rx ry ⟨h1, by rw [h2]; exact fin⟩
      · exact op_eqNil (by omega) pins s t H x y v u Q I rx ry ⟨_, h1, fin⟩
      · exact op_eqG (by omega) pins s t H x y v u Q I rx ry ⟨d, e, h1, h2, h3, h4, h5, by rw [h6]; exact fin⟩
    | ne =>
      simp only [cmpW, Option.map_eq_some_iff] at ez
      obtain ⟨z', ez, rfl⟩ := ez
      rcases eqW_cases m ha hb ez with ⟨h1, h2⟩ | h1 | ⟨d, e, h1, h2, h3, h4, h5, h6⟩
      · exact op_ne pins s t H x y v u Q I rx ry ⟨h1, by rw [h2]; exact fin⟩
      · exact op_neNil (by omega) pins s t H x y v u Q I rx ry ⟨_, h1, fin⟩
      · exact op_neG (by omega) pins s t H x y v u Q I rx ry ⟨d, e, h1, h2, h3, h4, h5, by rw [h6]; exact fin⟩
    | lt =>
      obtain ⟨i, j, rfl, rfl, rfl⟩ := ints_rep (f := fun i j => decide (i < j)) (ints2 ez) ha hb
      exact op_lt pins s t H _ _ v u Q I rx ry ⟨i, j, rfl, rfl, fin⟩
    | le =>
      obtain ⟨i, j, rfl, rfl, rfl⟩ := ints_rep (f := fun i j => decide (i ≤ j)) (ints2 ez) ha hb
      exact op_le pins s t H _ _ v u Q I rx ry ⟨i, j, rfl, rfl, fin⟩
    | gt =>
      obtain ⟨i, j, rfl, rfl, rfl⟩ := ints_rep (f := fun i j => decide (j < i)) (ints2 ez) ha hb
      exact op_gt pins s t H _ _ v u Q I rx ry ⟨i, j, rfl, rfl, fin⟩
    | ge =>
      obtain ⟨i, j, rfl, rfl, rfl⟩ := ints_rep (f := fun i j => decide (j ≤ i)) (ints2 ez) ha hb
      exact op_ge pins s t H _ _ v u Q I rx ry ⟨i, j, rfl, rfl, fin⟩
    | is =>
      have e2 : (y = .non ∧ decide (x = .non) = z) ∨ ∃ i j, x = .bl i ∧ y = .bl j ∧ decide (i = j) = z := by
        simp only [cmpW] at ez
        split at ez
        · cases ez; cases ha; cases hb; exact .inl ⟨rfl, rfl⟩
        · rename_i c
          cases ez; cases hb
          refine .inl ⟨rfl, decide_eq_false fun e => ?_⟩
          subst e
          cases a with
          | v d => cases ha; exact c rfl
          | fl l => obtain ⟨_, _, e, _⟩ := ha; cases e
        · cases ez; cases ha; cases hb; exact .inr ⟨_, _, rfl, rfl, rfl⟩
        · cases ez
      rcases e2 with e2 | ⟨i, j, h1, h2, h3⟩
      · exact op_isN pins s t H _ _ v u Q I rx ry ⟨e2.1, by rw [e2.2]; exact fin⟩
      · exact op_is_bl pins s t H _ _ v u Q I rx ry ⟨i, j, h1, h2, by rw [h3]; exact fin⟩
    | isnot =>
      have e2 : (y = .non ∧ (!decide (x = .non)) = z) ∨ ∃ i j, x = .bl i ∧ y = .bl j ∧ (!decide (i = j)) = z := by
        simp only [cmpW] at ez
        split at ez
        · cases ez; cases ha; cases hb; exact .inl ⟨rfl, rfl⟩
        · rename_i c
          cases ez; cases hb
          refine .inl ⟨rfl, ?_⟩
          rw [decide_eq_false]
          · rfl
          intro e
          subst e
          cases a with
          | v d => cases ha; exact c rfl
          | fl l => obtain ⟨_, _, e, _⟩ := ha; cases e
        · cases ez; cases ha; cases hb; exact .inr ⟨_, _, rfl, rfl, rfl⟩
        · cases ez
      rcases e2 with e2 | ⟨i, j, h1, h2, h3⟩
      · exact op_notN pins s t H _ _ v u Q I rx ry ⟨e2.1, by rw [e2.2]; exact fin⟩
      · exact op_isnot_bl pins s t H _ _ v u Q I rx ry ⟨i, j, h1, h2, by rw [h3]; exact fin⟩
    | inn =>
      rcases inQ_cases m ha hb ez with ⟨p, xs, h1, h2, h3, h4, h5⟩ | ⟨d, ds, h1, h2, h3, h4, h5⟩
      · exact op_in_seq pins s t H _ _ v u Q I rx ry ⟨p, xs, h1, h2, h3, h4, by simpa [h5] using fin⟩
      · rcases h2 with h2 | h2
        · exact op_inL hu pins s t H _ _ v u Q I rx ry ⟨d, ds, h1, h2, h3, h4, by rw [h5]; exact fin⟩
        · exact op_inT hu pins s t H _ _ v u Q I rx ry ⟨d, ds, h1, h2, h3, h4, by rw [h5]; exact fin⟩
    | notin =>
      simp only [cmpW, Option.map_eq_some_iff] at ez
      obtain ⟨z', ez, rfl⟩ := ez
      rcases inQ_cases m ha hb ez with ⟨p, xs, h1, h2, h3, h4, h5⟩ | ⟨d, ds, h1, h2, h3, h4, h5⟩
      · exact op_notIn_seq pins s t H _ _ v u Q I rx ry ⟨p, xs, h1, h2, h3, h4, by simpa [h5] using fin⟩
      · rcases h2 with h2 | h2
        · exact op_notInL hu pins s t H _ _ v u Q I rx ry ⟨d, ds, h1, h2, h3, h4, by rw [h5]; exact fin⟩
        · exact op_notInT hu pins s t H _ _ v u Q I rx ry ⟨d, ds, h1, h2, h3, h4, by rw [h5]; exact fin⟩

/-! ### arithmetic, joining -/
def pyB : Bop → Operator
  | .add => .Add | .sub => .Sub | .mul => .Mult | .fdiv => .FloorDiv | .mod => .Mod | .pow => .Pow
theorem flat_single (v : V) (n : Nat) : (List.replicate n [v]).flatten = List.replicate n v := by
  induction n with
  | zero => rfl
  | succ n ih => rw [List.replicate_succ, List.flatten_cons, ih]; rfl
theorem RDs.rep {x : D} {v : V} (h : RD K r H x v) : ∀ n, RDs K r H (List.replicate n x) (List.replicate n v)
  | 0 => .nil
  | n + 1 => .cons h (RDs.rep h n)
theorem RDs.flatrep {l : List D} {vs : List V} (h : RDs K r H l vs) : ∀ n, RDs K r H (List.replicate n l).flatten (List.replicate n vs).flatten
  | 0 => .nil
  | n + 1 => by rw [List.replicate_succ, List.replicate_succ, List.flatten_cons, List.flatten_cons]; exact h.append (RDs.flatrep h n)
theorem tup_mul_one (l : Addr) (items : Array Value) (n : Nat) (dd : Option Addr) (sl : Array (Option Value)) (u : Tok) :
    Meets (Builtin.«tuple.__mul__» ⟨[.ref l, .int 1 u], []⟩) (fun _ R s => s.heap.get? l = some { cls := .type "tuple", dict := dd, data := .seq items n, slots := sl } ∧ R (.ok (.ret (Value.ref l))) s) :=
  .of_wp fun prog w A R s h => by
    obtain ⟨hp, g, d, tk, os⟩ := s
    obtain ⟨hl, h⟩ := h
    have f1 := AutoSeq1.idx_int
    wp_walk using wpAny_loadPart' hl
    repeat (first
      | (refine wpAny_ite_false (decide_eq_false (by decide)) ?_; wp_walk using wpAny_loadPart' hl)
      | (refine wpAny_ite_true (decide_eq_true (by simp)) ?_; wp_walk using wpAny_loadPart' hl))
    all_goals first | exact ⟨_, rfl, h⟩ | skip
/-- t * 1 is t -/
theorem op_mul1T : OpR X (binaryOp .Mult) (fun x y H Q => ∃ l xs, x = .ref l ∧ y = .int 1 ∧ SqT X.K H l xs ∧ Q (.ref l) H) := by
  intro pins s t H x y v u Q I rx ry h
  obtain ⟨l, xs, rfl, rfl, hT, q⟩ := h
  cases rx
  obtain ⟨tk, rfl⟩ := ry
  obtain ⟨its, rv, ⟨⟨cls, dd, data, sl⟩, ho, hc, n, hd⟩, hs⟩ := I.tuple hT
  simp only at hc hd
  subst hc hd
  exact wpAny_binaryOp_repeat_ref (T := "tuple") (U := "int") (by decide) ⟨_, ho, rfl⟩ (fun s' => typeIs_int s' 1 tk) noFill_tuple_mul F.fills_int_mul F.slot_int_rmul repeat_tuple F.slot_int_index.lookup
    (call_meets F.slot_int_rmul (typeIs_int s 1 tk) F.entry_int_rmul (F.args_int_rmul_2 _ _) (int_rmul_tuple 1 tk l its.toArray n dd sl)
      ⟨ho, rfl, ⟨_, ho, rfl⟩, call_meets F.slot_tuple_mul ⟨_, ho, rfl⟩ F.entry_tuple_mul (F.args_tuple_mul_2 _ _) (tup_mul_one l its.toArray n dd sl tk) ⟨ho, ⟨.ref l, H, I, rfl, q⟩⟩⟩)
theorem op_bin (o : Bop) : OpR X (binaryOp (pyB o)) (rOp2 X.K (opW o)) := by
  intro pins s t H x y v u Q I rx ry h
  obtain ⟨H0, r, M, a, b, w, m, hb0, ha, hb, e, q⟩ := h
  have hz := line_eq
  cases o with
  | add =>
    simp only [opW] at e
    split at e
    · cases e; cases ha; cases hb
      exact op_add pins s t H _ _ v u Q I rx ry ⟨_, _, rfl, rfl, q r H _ .refl m (.int _)⟩
    · split at e
      · cases e; cases ha; cases hb
        exact op_add_str pins s t H _ _ v u Q I rx ry ⟨_, _, rfl, rfl, by omega, q r H _ .refl m (.str _)⟩
      · cases e
    · rename_i l l'
      split at e
      · rename_i c
        cases e; cases ha with
        | tup h1 h2 =>
        cases hb with
        | tup h3 h4 =>
        refine op_catX pins s t H _ _ v u Q I rx ry ⟨_, _, _, _, rfl, rfl, h1.sq, h3.sq, by rw [← h2.length, ← h4.length]; omega, fun e1 => ?_, fun e1 e2 => ?_, fun e1 e2 p o hp hd => ?_⟩
        · subst e1
          cases h2
          exact q r H _ .refl m (.tup h3 h4)
        · subst e2
          cases h4
          rw [List.append_nil] at q
          exact q r H _ .refl m (.tup h1 h2)
        · exact new_tup m (h2.append h4) hp hd q
      · cases e
    · rename_i c1 c2 c3
      cases e1 : asM M a with
      | none => rw [e1] at e; cases e
      | some l =>
        cases e2 : asM M b with
        | none => rw [e1, e2] at e; cases e
        | some l' =>
          rw [e1, e2] at e
          simp only at e
          split at e
          · cases e
            obtain ⟨p1, vs1, rfl, h1, h2⟩ := asM_rep m ha e1
            obtain ⟨p2, vs2, rfl, h3, h4⟩ := asM_rep m hb e2
            exact op_cat pins s t H _ _ v u Q I rx ry ⟨_, _, _, _, rfl, rfl, h1, h3, by rw [← h2.length, ← h4.length]; omega, fun p hp => new_list m hb0 (h2.append h4) hp q⟩
          · cases e
  | sub =>
    obtain ⟨i, j, rfl, rfl, e⟩ := ints2 e
    cases e; cases ha; cases hb
    exact op_sub pins s t H _ _ v u Q I rx ry ⟨_, _, rfl, rfl, q r H _ .refl m (.int _)⟩
  | mul =>
    simp only [opW] at e
    split at e
    · split at e
      · rename_i c
        cases e; cases ha; cases hb
        exact op_mul pins s t H _ _ v u Q I rx ry ⟨_, _, rfl, rfl, c, q r H _ .refl m (.int _)⟩
      · cases e
    · split at e
      · rename_i l k c
        cases e
        obtain ⟨p1, vs1, rfl, _, h1, _, h2⟩ := ha
        cases hb
        exact op_rep pins s t H _ _ v u Q I rx ry ⟨_, _, _, rfl, rfl, h1, by omega, by omega, by rw [← h2.length]; omega, fun p hp => new_list m hb0 (h2.flatrep _) hp q⟩
      · cases e
    · split at e
      · rename_i n k o l hl
        split at e
        · rename_i c
          cases e
          obtain ⟨p1, vs1, rfl, h1, h2⟩ := asM_rep (l := l) m ha (by simp only [asM, hl])
          cases hb
          exact op_rep pins s t H _ _ v u Q I rx ry ⟨_, _, _, rfl, rfl, h1, by omega, by omega, by rw [← h2.length]; omega, fun p hp => new_list m hb0 (h2.flatrep _) hp q⟩
        · cases e
      · cases e
    · split at e
      · rename_i x k c
        cases e; cases ha with
        | tup h1 h2 =>
        cases hb
        cases h2 with
        | cons h3 h4 =>
        cases h4
        by_cases hk : k = 1
        · subst hk
          exact op_mul1T pins s t H _ _ v u Q I rx ry ⟨_, _, rfl, rfl, h1.sq, q r H _ .refl m (.tup h1 (.cons h3 .nil))⟩
        exact op_repX pins s t H _ _ v u Q I rx ry ⟨_, _, _, rfl, rfl, h1.sq, by omega, by omega, fun p o hp hd => new_tup m (RDs.rep h3 _) hp hd q⟩
      · cases e
    · cases e
  | fdiv =>
    obtain ⟨i, j, rfl, rfl, e2⟩ := ints2 e
    clear e
    split at e2
    · rename_i c
      cases e2; cases ha; cases hb
      have c1 : 0 < j := c.1
      have c2 : j < 2 ^ 60 := c.2
      exact op_fdivW pins s t H _ _ v u Q I rx ry ⟨_, _, rfl, rfl, wide_div c1 (b := 60) (by omega) (by omega) (by omega), q r H _ .refl m (.int _)⟩
    · cases e2
  | mod =>
    obtain ⟨i, j, rfl, rfl, e2⟩ := ints2 e
    clear e
    split at e2
    · rename_i c
      cases e2; cases ha; cases hb
      exact op_mod pins s t H _ _ v u Q I rx ry ⟨_, _, rfl, rfl, c, q r H _ .refl m (.int _)⟩
    · cases e2
  | pow =>
    obtain ⟨i, j, rfl, rfl, e2⟩ := ints2 e
    clear e
    split at e2
    · rename_i c
      cases e2; cases ha; cases hb
      exact op_pow pins s t H _ _ v u Q I rx ry ⟨_, _, rfl, rfl, c, q r H _ .refl m (.int _)⟩
    · cases e2

/-! ### one value -/
def negW (_ : Mem) (a : W) : Option W := (toI a).map fun i => .v (.int (-i))
theorem toI_rep {H0 : Hp} {a : W} {x : V} {i : Int} (h : toI a = some i) (ha : RW K H0 r H a x) : x = .int i := by
  cases a with
  | fl l => cases h
  | v d =>
    cases d with
    | int j => cases h; cases ha; rfl
    | _ => cases h
theorem toB_rep {H0 : Hp} {a : W} {x : V} {i : Bool} (h : toB a = some i) (ha : RW K H0 r H a x) : x = .bl i := by
  cases a with
  | fl l => cases h
  | v d =>
    cases d with
    | bl j => cases h; cases ha; rfl
    | _ => cases h
theorem op_neg : UnR X (unaryOp .USub) (rOp1 X.K negW) := by
  intro pins s t H x v Q I rx h
  obtain ⟨H0, r, M, a, w, m, hb0, ha, e, q⟩ := h
  unfold negW at e
  cases e1 : toI a with
  | none => rw [e1] at e; cases e
  | some i =>
    rw [e1] at e
    cases e
    have := toI_rep e1 ha
    subst this
    exact un_neg pins s t H _ v Q I rx ⟨i, rfl, q r H _ .refl m (.int _)⟩
/-! indexes -/
theorem atI_rep {l : List D} {vs : List V} {k : Int} {d : D} (h : RDs K r H l vs) (e : atI l k = some d) : ∃ v, atI vs k = some v ∧ RD K r H d v := by
  unfold atI at e ⊢
  rw [← h.length]
  cases q : ixN l.length k with
  | none => rw [q] at e; cases e
  | some j =>
    rw [q] at e
    exact h.get e
theorem ix_ev : IxR X (rOp2 X.K ixW) := by
  intro value slice pins s t H x y v u Q I rx ry h hs
  obtain ⟨H0, r, M, a, b, w, m, hb0, ha, hb, e, q⟩ := h
  unfold ixW at e
  split at e
  · rename_i l k el
    simp only [Option.map_eq_some_iff] at e
    obtain ⟨d, e, rfl⟩ := e
    obtain ⟨p, vs, rfl, h2, h3⟩ := asQ_rep m ha el
    obtain ⟨z, h4, h5⟩ := atI_rep h3 e
    cases hb
    have fin : Q z H := q r H z .refl m h5
    rcases h2 with ⟨_, h2⟩ | ⟨_, _, h2⟩
    · exact ix_seq value slice pins s t H _ _ v u Q I rx ry (.inr (.inl ⟨p, vs, k, z, rfl, rfl, h2.sq, h4, fin⟩)) hs
    · exact ix_seq value slice pins s t H _ _ v u Q I rx ry (.inl ⟨p, vs, k, z, rfl, rfl, h2, h4, fin⟩) hs
  · cases e
theorem RDs.cut {l : List D} {vs : List V} (h : RDs K r H l vs) (lo hi : Option Int) : RDs K r H (Ev.cut l lo hi) (cutV vs lo hi) := by
  unfold Ev.cut cutV
  rw [h.length]
  exact (h.drop _).take _
def rSlE (K : PySem.W.Frag) : V → Option Int → Option Int → Hp → VK → Prop := fun x lo hi H Q => ∃ (H0 : Hp) (r : List Addr) (M : Mem) (a w : W), RM K r H M ∧ (∀ p, H p = none → H0 p = none) ∧ RW K H0 r H a x ∧ slW M a lo hi = some w ∧
  ∀ r' H' v, Stp r H r' H' → RM K r' H' M → RW K H0 r' H' w v → Q v H'
theorem sl_ev : SlR X (rSlE X.K) := by
  intro pins s t H x v vl vu lo hi sl Q I rx hs pl pu h
  obtain ⟨H0, r, M, a, w, m, hb0, ha, e, q⟩ := h
  unfold slW at e
  cases et : asT a with
  | some l =>
    rw [et] at e
    cases e
    obtain ⟨p, vs, rfl, h1, h2⟩ := asT_rep ha et
    refine sl_tupX pins s t H _ v vl vu lo hi sl Q I rx hs pl pu ⟨p, vs, rfl, h1.sq, fun c => ?_, fun _ p' o hp hd => ?_⟩
    · have e1 : Ev.cut l lo hi = l := by
        unfold Ev.cut
        rw [h2.length, c.1, c.2, List.drop_zero, Nat.sub_zero, ← h2.length, List.take_length]
      rw [e1] at q
      exact q r H _ .refl m (.tup h1 h2)
    · exact new_tup m (h2.cut lo hi) hp hd q
  | none =>
    rw [et] at e
    cases el : asL M a with
    | none => rw [el] at e; cases e
    | some l =>
      rw [el] at e
      cases e
      obtain ⟨p, vs, rfl, h1, h2⟩ := asL_rep m ha el
      exact sl_list pins s t H _ v vl vu lo hi sl Q I rx hs pl pu ⟨p, vs, rfl, h1, fun p' hp => new_list m hb0 (h2.cut lo hi) hp q⟩
/-! calls of one argument -/
def rC1 (K : PySem.W.Frag) (f : Mem → W → Option W) : List V → Hp → VK → Prop := fun vs H Q => ∃ x, vs = [x] ∧ rOp1 K f x H Q
def lenV (M : Mem) (a : W) : Option W := (lenW M a).map fun i => .v (.int i)
theorem call_lenE : CallR X (.builtin "len") (rC1 X.K lenV) := by
  intro pins s t H vs us Q I rv h
  obtain ⟨x, rfl, H0, r, M, a, w, m, hb0, ha, e, q⟩ := h
  unfold lenV lenW at e
  cases el : asQ M a with
  | none => rw [el] at e; cases e
  | some l =>
    rw [el] at e
    cases e
    obtain ⟨p, vs, rfl, h2, h3⟩ := asQ_rep m ha el
    have fin : Q (.int (vs.length : Nat)) H := by rw [← h3.length]; exact q r H _ .refl m (.int _)
    refine call_len_seq pins s t H _ us Q I rv ⟨p, vs, rfl, ?_, fin⟩
    rcases h2 with ⟨_, h2⟩ | ⟨_, _, h2⟩
    · exact .inr h2.sq
    · exact .inl h2
def absW (_ : Mem) (a : W) : Option W := (toI a).map fun i => .v (.int (if i < 0 then -i else i))
theorem call_absE : CallR X (.builtin "abs") (rC1 X.K absW) := by
  intro pins s t H vs us Q I rv h
  obtain ⟨x, rfl, H0, r, M, a, w, m, hb0, ha, e, q⟩ := h
  unfold absW at e
  cases e1 : toI a with
  | none => rw [e1] at e; cases e
  | some i =>
    rw [e1] at e
    cases e
    have := toI_rep e1 ha
    subst this
    exact call_abs pins s t H _ us Q I rv ⟨i, rfl, q r H _ .refl m (.int _)⟩
def intW (_ : Mem) (a : W) : Option W := match a with
  | .v (.int i) => some (.v (.int i))
  | .v (.bl k) => some (.v (.int (if k then 1 else 0)))
  | _ => none
theorem call_intE : CallR X (.type "int") (rC1 X.K intW) := by
  intro pins s t H vs us Q I rv h
  obtain ⟨x, rfl, H0, r, M, a, w, m, hb0, ha, e, q⟩ := h
  unfold intW at e
  split at e
  · cases e; cases ha
    exact call_int1 pins s t H _ us Q I rv (.inl ⟨_, rfl, q r H _ .refl m (.int _)⟩)
  · cases e; cases ha
    exact call_int1 pins s t H _ us Q I rv (.inr ⟨_, rfl, q r H _ .refl m (.int _)⟩)
  · cases e
def rC2 (K : PySem.W.Frag) (f : Mem → W → W → Option W) : List V → Hp → VK → Prop := fun vs H Q => ∃ x y, vs = [x, y] ∧ rOp2 K f x y H Q
def min2W (_ : Mem) (a b : W) : Option W := match a, b with
  | .v (.int i), .v (.int j) => some (.v (.int (if j < i then j else i)))
  | _, _ => none
def max2W (_ : Mem) (a b : W) : Option W := match a, b with
  | .v (.int i), .v (.int j) => some (.v (.int (if j > i then j else i)))
  | _, _ => none
theorem call_min2E (hc : X.calm = true) : CallR X (.builtin "min") (rC2 X.K min2W) := by
  intro pins s t H vs us Q I rv h
  obtain ⟨x, y, rfl, H0, r, M, a, b, w, m, hb0, ha, hb, e, q⟩ := h
  obtain ⟨i, j, rfl, rfl, e⟩ := ints2 e
  cases e; cases ha; cases hb
  exact call_min2 hc pins s t H _ us Q I rv ⟨_, _, rfl, q r H _ .refl m (.int _)⟩
theorem call_max2E (hc : X.calm = true) : CallR X (.builtin "max") (rC2 X.K max2W) := by
  intro pins s t H vs us Q I rv h
  obtain ⟨x, y, rfl, H0, r, M, a, b, w, m, hb0, ha, hb, e, q⟩ := h
  obtain ⟨i, j, rfl, rfl, e⟩ := ints2 e
  cases e; cases ha; cases hb
  exact call_max2 hc pins s t H _ us Q I rv ⟨_, _, rfl, q r H _ .refl m (.int _)⟩
/-! isinstance -/
def tyN : Ty → String
  | .int => "int" | .bool => "bool" | .str => "str" | .tuple => "tuple" | .list => "list" | .dict => "dict"
end
end Ev

/-! EvB3: calls of what is built in. -/
namespace Ev
open PySem PySem.Spec PyProof.Rows L2

variable {K : PySem.W.Frag} {r : List Addr} {H : Hp} {M : Mem}

/-! ### isinstance -/
def tyD : D → Option String
  | .non => some "NoneType" | .bl _ => some "bool" | .int _ => some "int" | .str _ => some "str" | .tup _ => some "tuple" | .scr _ => some "list" | .ref _ => none
theorem isTy_kit {a : W} {t : Ty} {b : Bool} {H0 : Hp} {x : V} (m : RM K r H M) (h : RW K H0 r H a x) (e : isTy M a t = some b) : ∃ T, TyX K H x (.type T) ∧ kitB T (tyN t) = some b := by
  cases a with
  | fl l =>
    obtain ⟨p, vs, rfl, _, h1, _⟩ := h
    cases e
    exact ⟨"list", .base (.lst h1), by cases t <;> decide +kernel⟩
  | v d =>
    cases d with
    | non => cases e; cases h; exact ⟨"NoneType", .base .non, by cases t <;> decide +kernel⟩
    | bl i => cases e; cases h; exact ⟨"bool", .base (.bl _), by cases t <;> decide +kernel⟩
    | int i => cases e; cases h; exact ⟨"int", .base (.int _), by cases t <;> decide +kernel⟩
    | str i => cases e; cases h; exact ⟨"str", .base (.str _), by cases t <;> decide +kernel⟩
    | tup l => cases e; cases h with | tup h1 _ => obtain ⟨o, h1, _⟩ := h1; exact ⟨"tuple", .fTuple h1, by cases t <;> decide +kernel⟩
    | scr l =>
      cases e
      cases h with
      | scr h1 =>
        refine ⟨"list", ?_, by cases t <;> decide +kernel⟩
        rcases h1 H .refl with (h2 | ⟨o, h2⟩) | ⟨o, its, n, h2, h3, _⟩
        · exact .base (.lst h2)
        · exact .base (.frz h2)
        · exact .kList h2 h3
    | ref n =>
      cases h with
      | ref hn =>
        obtain ⟨o, h1, h2⟩ := m.at hn
        simp only [isTy, h1] at e
        cases o with
        | lst l =>
          cases e
          obtain ⟨vs, h3, _⟩ := h2
          exact ⟨"list", .base (.lst h3), by cases t <;> decide +kernel⟩
        | dct l =>
          cases e
          obtain ⟨vs, h3, _⟩ := h2
          exact ⟨"dict", .base (.dK h3), by cases t <;> decide +kernel⟩
        | ins _ _ => cases e
section
variable {X : Cx}
def rIsiE (K : PySem.W.Frag) (t : Ty) : List V → Hp → VK → Prop := fun vs H Q => ∃ x, vs = [x, .ty (tyN t)] ∧ rOp1 K (fun M a => (isTy M a t).map fun b => .v (.bl b)) x H Q
theorem call_isiE (t : Ty) : CallR X (.builtin "isinstance") (rIsiE X.K t) := by
  intro pins s σ H vs us Q I rv h
  obtain ⟨x, rfl, H0, r, M, a, w, m, hb0, ha, e, q⟩ := h
  cases e1 : isTy M a t with
  | none => simp only [e1] at e; cases e
  | some b =>
    simp only [e1] at e
    cases e
    obtain ⟨T, h1, h2⟩ := isTy_kit m ha e1
    exact call_isi pins s σ H _ us Q I rv ⟨x, _, _, _, b, rfl, .ty _, h1, kit_ty h2, q r H _ .refl m (.bl _)⟩

/-! ### repr -/
def reprV (M : Mem) (a : W) : Option W := (reprW M a).map fun z => .v (.str z)
theorem call_reprE (hg : X.A.guards = some []) (hu : X.A.units + 100 < cLine) : CallR X (.builtin "repr") (rC1 X.K reprV) := by
  intro pins s σ H vs us Q I rv h
  obtain ⟨x, rfl, H0, r, M, a, w, m, hb0, ha, e, q⟩ := h
  have hz := line_eq
  unfold reprV reprW at e
  cases e1 : pdW M a with
  | none => rw [e1] at e; cases e
  | some p =>
    rw [e1] at e
    simp only at e
    split at e
    · rename_i c
      cases e
      obtain ⟨c1, c3, c4⟩ := c
      obtain ⟨u, rfl, ru⟩ := vals1 rv
      have dp := pdW_dp m e1 ha
      have fin : Q (.str p.shown) H := q r H _ .refl m (.str _)
      have rd := dp.rs I ru
      cases dp with
      | non =>
        cases (show u = Value.none from ru)
        simp only [PyData.shown] at fin
        exact PySem.P.repr_of_none ⟨.str _, H, I.tok _, ⟨_, rfl⟩, fin⟩
      | bl b =>
        cases (show u = Value.bool b from ru)
        simp only [PyData.shown] at fin
        exact PySem.P.repr_of_bool ⟨.str _, H, I.tok _, ⟨_, rfl⟩, fin⟩
      | int i =>
        obtain ⟨t, rfl⟩ := ru
        simp only [PyData.shown] at fin
        simp only [PyData.showable, decide_eq_true_eq] at c1
        exact PySem.P.repr_of_int c1 ⟨.str _, H, I.tok _, ⟨_, rfl⟩, fin⟩
      | str z =>
        obtain ⟨t, rfl⟩ := ru
        simp only [PyData.shown] at fin c4
        exact PySem.P.repr_of_str ⟨.str _, H, I.tok _, ⟨_, rfl⟩, fin⟩ (by omega)
      | lst h1 h2 =>
        cases (show u = Value.ref _ from ru)
        exact repr_rs rd c1 hg (by omega) (fun h' u tk hk => ⟨.str _, H, I.kept (h' := h') (t' := tk) hk, ⟨_, rfl⟩, fin⟩) (by omega)
      | dct h1 h2 h3 =>
        cases (show u = Value.ref _ from ru)
        exact repr_rs rd c1 hg (by omega) (fun h' u tk hk => ⟨.str _, H, I.kept (h' := h') (t' := tk) hk, ⟨_, rfl⟩, fin⟩) (by omega)
      | tup h1 h2 =>
        cases (show u = Value.ref _ from ru)
        exact repr_rs rd c1 hg (by omega) (fun h' u tk hk => ⟨.str _, H, I.kept (h' := h') (t' := tk) hk, ⟨_, rfl⟩, fin⟩) (by omega)
    · cases e

/-! ### what goes through a row -/
theorem intsOf_rep : ∀ {l : List D} {vs : List V} {ns : List Int}, RDs K r H l vs → intsOf l = some ns → vs = ns.map V.int
  | [], _, _, .nil, e => by cases e; rfl
  | .int i :: l, _, _, .cons (.int _) t, e => by
    simp only [intsOf, Option.map_eq_some_iff] at e
    obtain ⟨ns, e, rfl⟩ := e
    rw [intsOf_rep t e]; rfl
theorem blsOf_rep : ∀ {l : List D} {vs : List V} {ns : List Bool}, RDs K r H l vs → blsOf l = some ns → vs = ns.map V.bl
  | [], _, _, .nil, e => by cases e; rfl
  | .bl i :: l, _, _, .cons (.bl _) t, e => by
    simp only [blsOf, Option.map_eq_some_iff] at e
    obtain ⟨ns, e, rfl⟩ := e
    rw [blsOf_rep t e]; rfl
theorem sortI_perm (l : List Int) : (sortI l).Perm l := List.mergeSort_perm _ _
theorem sortI_sorted (l : List Int) : (sortI l).Pairwise (· ≤ ·) := by
  have h := List.pairwise_mergeSort (le := fun a b : Int => decide (a ≤ b)) (by intro a b c h1 h2; simp at *; omega) (by intro a b; simp; omega) l
  exact h.imp fun h => by simpa using h
theorem sorted_eq {l m : List Int} (p : l.Perm m) (h1 : l.Pairwise (· ≤ ·)) (h2 : m.Pairwise (· ≤ ·)) : l = m :=
  p.eq_of_pairwise (fun a b _ _ h1 h2 => by omega) h1 h2
theorem foldl_max : ∀ (l : List Int) (x : Int), (l.foldl max x = x ∨ l.foldl max x ∈ l) ∧ x ≤ l.foldl max x ∧ ∀ y ∈ l, y ≤ l.foldl max x
  | [], x => ⟨.inl rfl, Int.le_refl _, fun _ h => nomatch h⟩
  | a :: l, x => by
    obtain ⟨h1, h2, h3⟩ := foldl_max l (max x a)
    have e : (a :: l).foldl max x = l.foldl max (max x a) := rfl
    rw [e]
    refine ⟨?_, by omega, fun y hy => ?_⟩
    · rcases h1 with h1 | h1
      · rcases Int.le_total x a with c | c
        · right; rw [h1, Int.max_eq_right c]; exact List.mem_cons_self
        · left; rw [h1, Int.max_eq_left c]
      · right; exact List.mem_cons_of_mem _ h1
    · rcases List.mem_cons.mp hy with rfl | hy
      · omega
      · exact h3 y hy
theorem foldl_min : ∀ (l : List Int) (x : Int), (l.foldl min x = x ∨ l.foldl min x ∈ l) ∧ l.foldl min x ≤ x ∧ ∀ y ∈ l, l.foldl min x ≤ y
  | [], x => ⟨.inl rfl, Int.le_refl _, fun _ h => nomatch h⟩
  | a :: l, x => by
    obtain ⟨h1, h2, h3⟩ := foldl_min l (min x a)
    have e : (a :: l).foldl min x = l.foldl min (min x a) := rfl
    rw [e]
    refine ⟨?_, by omega, fun y hy => ?_⟩
    · rcases h1 with h1 | h1
      · rcases Int.le_total x a with c | c
        · left; rw [h1, Int.min_eq_left c]
        · right; rw [h1, Int.min_eq_right c]; exact List.mem_cons_self
      · right; exact List.mem_cons_of_mem _ h1
    · rcases List.mem_cons.mp hy with rfl | hy
      · omega
      · exact h3 y hy
theorem maxI_of {ns : List Int} {m : Int} (h : maxI ns = some m) : m ∈ ns ∧ ∀ y ∈ ns, y ≤ m := by
  cases ns with
  | nil => cases h
  | cons x l =>
    cases h
    obtain ⟨h1, h2, h3⟩ := foldl_max l x
    refine ⟨?_, fun y hy => ?_⟩
    · rcases h1 with h1 | h1
      · rw [h1]; exact List.mem_cons_self
      · exact List.mem_cons_of_mem _ h1
    · rcases List.mem_cons.mp hy with rfl | hy
      · exact h2
      · exact h3 y hy
theorem minI_of {ns : List Int} {m : Int} (h : minI ns = some m) : m ∈ ns ∧ ∀ y ∈ ns, m ≤ y := by
  cases ns with
  | nil => cases h
  | cons x l =>
    cases h
    obtain ⟨h1, h2, h3⟩ := foldl_min l x
    refine ⟨?_, fun y hy => ?_⟩
    · rcases h1 with h1 | h1
      · rw [h1]; exact List.mem_cons_self
      · exact List.mem_cons_of_mem _ h1
    · rcases List.mem_cons.mp hy with rfl | hy
      · exact h2
      · exact h3 y hy
/-- the value of a built-in that goes through a row -/
def biC : Bi → Value
  | .tuple => .type "tuple" | .list => .type "list" | .sorted => .builtin "sorted" | .sum => .builtin "sum" | .all => .builtin "all" | .any => .builtin "any" | .min => .builtin "min" | .max => .builtin "max"
/-- tuples are gone through by tuple() and list() alone -/
def biT : Bi → Bool
  | .tuple => true | .list => true | _ => false
def rBi (K : PySem.W.Frag) (f : Bi) : List V → Hp → VK → Prop := fun vs H Q => ∃ x, vs = [x] ∧ rOp1 K (fun M a => if biT f = true ∨ asT a = none then biV f M a else none) x H Q
theorem call_tupX : CallR X (.type "tuple") (fun xs H Q => ∃ p ys, xs = [.ref p] ∧ SqL X.K H p ys ∧ newT ys Q H) := by
  intro pins s σ H xs us Q I rv h
  obtain ⟨p, ys, rfl, hq, q⟩ := h
  obtain ⟨u, rfl, rx⟩ := vals1 rv
  cases rx
  obtain ⟨its, r', pl, hz⟩ := I.list hq
  refine call_tuple_list pl.isList (fun h' kp => ?_) (by rw [List.size_toArray, ← r'.length]; exact hz)
  exact gotT (I.kept (h' := h') (t' := s.toks) kp) r' hz q
theorem call_biE (hc : X.calm = true) (f : Bi) : CallR X (biC f) (rBi X.K f) := by
  intro pins s σ H vs us Q I rv h
  obtain ⟨x, rfl, H0, r, M, a, w, m, hb0, ha, e, q⟩ := h
  simp only at e
  split at e
  · rename_i c
    unfold biV at e
    cases el : asQ M a with
    | none => rw [el] at e; cases e
    | some l =>
      rw [el] at e
      replace e : biW f l = some w := e
      obtain ⟨p, vs, rfl, h2, h3⟩ := asQ_rep m ha el
      have lst : biT f = false → SqL X.K H p vs := fun hf => by
        rw [hf] at c
        rcases c with c | c
        · cases c
        · rcases h2 with ⟨h2, _⟩ | ⟨_, _, h2⟩
          · rw [c] at h2; cases h2
          · exact h2
      cases f with
      | tuple =>
        cases e
        rcases h2 with ⟨_, h2⟩ | ⟨_, _, h2⟩
        · exact call_tuple_of pins s σ H _ us Q I rv ⟨p, vs, rfl, .inr ⟨h2.sq, q r H _ .refl m (.tup h2 h3)⟩⟩
        · exact call_tupX pins s σ H _ us Q I rv ⟨p, vs, rfl, h2, fun p' o hp hd => new_tup m h3 hp hd q⟩
      | list =>
        cases e
        refine call_list_of pins s σ H _ us Q I rv ⟨p, vs, rfl, ?_, fun p' hp => new_list m hb0 h3 hp q⟩
        rcases h2 with ⟨_, h2⟩ | ⟨_, _, h2⟩
        · exact .inr h2.sq
        · exact .inl h2
      | sorted =>
        simp only [biW, Option.map_eq_some_iff] at e
        obtain ⟨ns, e, rfl⟩ := e
        have ev := intsOf_rep h3 e
        subst ev
        refine cr_sortedI pins s σ H _ us Q I rv ⟨p, ns, rfl, lst rfl, fun ns' p' h4 h5 hp => ?_⟩
        have := sorted_eq (h4.trans (sortI_perm ns).symm) h5 (sortI_sorted ns)
        subst this
        exact new_list m hb0 (.ints _) hp q
      | sum =>
        simp only [biW, Option.map_eq_some_iff] at e
        obtain ⟨ns, e, rfl⟩ := e
        have ev := intsOf_rep h3 e
        subst ev
        exact cr_sum hc pins s σ H _ us Q I rv ⟨p, ns, rfl, lst rfl, q r H _ .refl m (.int _)⟩
      | all =>
        simp only [biW, Option.map_eq_some_iff] at e
        obtain ⟨ns, e, rfl⟩ := e
        have ev := blsOf_rep h3 e
        subst ev
        exact cr_all hc pins s σ H _ us Q I rv ⟨p, ns, rfl, lst rfl, q r H _ .refl m (.bl _)⟩
      | any =>
        simp only [biW, Option.map_eq_some_iff] at e
        obtain ⟨ns, e, rfl⟩ := e
        have ev := blsOf_rep h3 e
        subst ev
        exact cr_any hc pins s σ H _ us Q I rv ⟨p, ns, rfl, lst rfl, q r H _ .refl m (.bl _)⟩
      | min =>
        simp only [biW, Option.bind_eq_some_iff, Option.map_eq_some_iff] at e
        obtain ⟨ns, e, i, e2, rfl⟩ := e
        have ev := intsOf_rep h3 e
        subst ev
        obtain ⟨h4, h5⟩ := minI_of e2
        refine cr_min hc pins s σ H _ us Q I rv ⟨p, ns, rfl, lst rfl, List.length_pos_of_mem h4, fun k h6 h7 => ?_⟩
        have : k = i := by have := h7 i h4; have := h5 k h6; omega
        subst this
        exact q r H _ .refl m (.int _)
      | max =>
        simp only [biW, Option.bind_eq_some_iff, Option.map_eq_some_iff] at e
        obtain ⟨ns, e, i, e2, rfl⟩ := e
        have ev := intsOf_rep h3 e
        subst ev
        obtain ⟨h4, h5⟩ := maxI_of e2
        refine cr_max hc pins s σ H _ us Q I rv ⟨p, ns, rfl, lst rfl, List.length_pos_of_mem h4, fun k h6 h7 => ?_⟩
        have : k = i := by have := h7 i h4; have := h5 k h6; omega
        subst this
        exact q r H _ .refl m (.int _)
  · cases e
end
end Ev

/-! EvB4: sorted of a tuple; methods of lists. -/
namespace Ev
open PySem PySem.Spec PyProof.Rows L2

section
variable {prog : Program} {w : World} {A : Around} {E : Value → Shared → Prop} {s : Shared}
/-- the things of a tuple, in a new list -/
theorem collect_tup {l : Addr} {vs : List Value} {Q : List Value → Shared → Prop} (hl : IsTup s.heap l vs.toArray)
    (h : Q vs { s with heap := (s.heap.push (seqObj "list" #[] 0)).update s.heap.objs.size (Obj.mapSeq (· ++ vs.toArray)) }) (hsz : vs.length ≤ sizeLine) :
    wpAny (model prog w) A (collect (.ref l)) Q E s := by
  obtain ⟨ot, gt, kt, nt, dt⟩ := id hl
  unfold collect; refine wpAny_bind (wpAny_runValue (codeAny_builtin entry_proto_collect' ?_))
  show wpAny _ _ (do again (.builtin "list.__iadd__" ⟨[← newList [], .ref l], []⟩)) _ _ _
  refine wpAny_bind (wpAny_newList (wpAny_pure ⟨Code.quiet_builtin _ (by decide +kernel), codeAny_builtin entry_list_iadd' ?_⟩))
  show wpAny _ _ (Builtin.List.listExtendWith (.ref s.heap.objs.size) (.ref l) (.ref s.heap.objs.size)) _ _ { s with heap := Heap.push s.heap (seqObj "list" #[] 0) }
  rw [Builtin.List.listExtendWith]
  have gt2 : (s.heap.push (seqObj "list" #[] 0)).get? l = some ot := Heap.get?_push_of_some _ gt
  refine wpAny_bind (wpAny_typeOf (T := "tuple") ⟨ot, gt2, kt⟩ ?_)
  rw [if_pos (by simp)]; refine wpAny_bind (listItems_at gt2 dt ?_)
  refine wpAny_bind (listItems_at (xs := #[]) (n := 0) (Heap.get?_push_size _ rfl) rfl ?_); rw [if_neg (by simp)]
  refine wpAny_bind (listUpdate_at (n := 0) (xs := #[]) (Heap.get?_push_size _ rfl) rfl ?_ (Nat.zero_le _) (by show (#[] ++ vs.toArray).size ≤ sizeLine + 1; simp only [List.size_toArray, List.length_nil, Array.size_append]; omega))
  refine wpAny_pure ?_; show wpAny (model prog w) A (do
      let o ← load s.heap.objs.size
      (match o.data with
      | .seq xs _ => pure xs.toList
      | _ => unsupported "internal:collect")) Q E { s with heap := (s.heap.push (seqObj "list" #[] 0)).update s.heap.objs.size (Obj.mapSeq (· ++ vs.toArray)) }
  refine wpAny_bind (wpAny_load (get?_update_seq (Heap.get?_push_size _ rfl) _) ?_); show wpAny _ _ (pure ((#[] : Array Value) ++ vs.toArray).toList) Q E _
  rw [show ((#[] : Array Value) ++ vs.toArray).toList = vs by simp]; exact wpAny_pure h
/-- sorted of a tuple of ints -/
theorem sorted_tup {l : Addr} {vs : List Value} {ns : List Int} {Q : Value → Shared → Prop} (hl : IsTup s.heap l vs.toArray) (hI : IntsAre vs ns) (hL : vs.length ≤ sizeLine)
    (h : ∀ (out : Array Value) (ns' : List Int), IntsAre out.toList ns' → ns'.Perm ns → ns'.Pairwise (· ≤ ·) → Q (.ref (s.heap.objs.size + 1)) { s with heap := sortedAll s.heap vs out }) :
    wpAny (model prog w) A (call (.builtin "sorted") [.ref l]) Q E s := by
  refine Calls.call_function_entry kind_sorted plain_sorted entry_sorted (args_sorted1 _) ?_
  rw [Builtin.«sorted»]; refine wpAny_bind (m := checkCount "sorted" 1 1 _) (wpAny_pure ?_)
  refine wpAny_bind (collect_tup hl ?_ hL); refine wpAny_bind (wpAny_newList ?_)
  have z1 : ((s.heap.push (seqObj "list" #[] 0)).update s.heap.objs.size (Obj.mapSeq (· ++ vs.toArray))).objs.size = s.heap.objs.size + 1 := by rw [Heap.size_update]; exact size_push' _ _
  have z2 : (((s.heap.push (seqObj "list" #[] 0)).update s.heap.objs.size (Obj.mapSeq (· ++ vs.toArray))).push (seqObj "list" vs.toArray 0)).get? (s.heap.objs.size + 1) = some (seqObj "list" vs.toArray 0) := by rw [← z1]; exact Heap.get?_push_size _ rfl
  show wpAny _ _ _ _ _ { s with heap := Heap.push ((s.heap.push (seqObj "list" #[] 0)).update s.heap.objs.size (Obj.mapSeq (· ++ vs.toArray))) (seqObj "list" vs.toArray 0) }
  rw [z1]; refine wpAny_bind (wpAny_holding (wpAny_call_entry slot_list_sort ⟨_, z2, rfl⟩ entry_list_sort (list_sort_treeAny z2 hI hL fun out ns' a1 a2 a3 => ⟨_, rfl, wpAny_pure ⟨_, rfl, h out ns' a1 a2 a3⟩⟩) (args_list_sort _)))
end
/-! ### sum, min, max, all, any of a tuple -/
section
variable {prog : Program} {w : World} {A : Around} {E : Value → Shared → Prop} {s : Shared} {l : Addr} {xs : Array (Int × Tok)} {its : List Value} {ns : List Int}
theorem iter_tupA {items : Array Value} {Q : Value → Shared → Prop} (hl : s.heap.IsTuple l items)
    (h : ∀ s₂ : Shared, s₂ = { s with heap := s.heap.push { cls := .type "tuple_iterator", data := .fields #[.ref l, .int 0 0] } } →
      (s₂.heap.IsTupleIter s.heap.objs.size l 0 ∧ s₂.heap.IsTuple l items) → (∀ b ∈ [s.heap.objs.size, l], b < s₂.heap.objs.size) → l ≠ s.heap.objs.size → Q (.ref s.heap.objs.size) s₂) : wpAny (model prog w) A (pyIter (.ref l)) Q E s := by
  have hlt : l < s.heap.objs.size := by obtain ⟨_, e, _⟩ := hl; exact Heap.lt_size e
  have hsz : (s.heap.push { cls := .type "tuple_iterator", data := .fields #[.ref l, .int 0 0] }).objs.size = s.heap.objs.size + 1 := Heap.size_push ..
  exact wpAny_pyIter_tuple hl (h _ rfl ⟨⟨_, Heap.get?_push_size _ rfl, rfl, rfl⟩, hl.at fun o e => Heap.get?_push_of_some _ e⟩ (fun b hb => by
    show b < (s.heap.push _).objs.size
    rw [hsz]
    have hb : b = s.heap.objs.size ∨ b = l := by simpa using hb
    rcases hb with q | q
    · rw [q]; exact Nat.lt_succ_self _
    · rw [q]; exact Nat.lt_succ_of_lt hlt) (Nat.ne_of_lt hlt))
theorem old_keptT {h' hp : Heap} {ob : Obj} (hk : ∀ b o, b ∉ [hp.objs.size] → (hp.push ob).get? b = some o → h'.get? b = some o) : ∀ b o, hp.get? b = some o → h'.get? b = some o :=
  fun b o eo => hk b o (fun hm => absurd ((List.mem_singleton.mp hm) ▸ Heap.lt_size eo) (Nat.lt_irrefl _)) (Heap.get?_push_of_some _ eo)
theorem sum_tupG {Q : Value → Shared → Prop} (hh : A.handled = none) (hl : s.heap.IsTuple l (intItems xs))
    (h : ∀ h' tk t', (∀ b o, s.heap.get? b = some o → h'.get? b = some o) → Q (.int (preSum (numAt xs) xs.size) t') { s with heap := h', toks := tk }) :
    wpAny (model prog w) A (call (.builtin "sum") [.ref l]) Q E s := by
  refine call_sum_walkG (iter_tupA hl fun s₂ e st hfp hlI => ?_)
  subst e
  refine ⟨_, _, _, _, _, _, numAt xs, rfl, Walks.tuple (A := A.in1) hh _ l hlI (intItems xs), st, hfp, (fun _ _ => intItems_at), fun h' tk t' hk => ?_⟩
  have := h h' tk t' (old_keptT hk)
  simpa [intItems] using this
theorem max_tupG {Q : Value → Shared → Prop} (hh : A.handled = none) (hl : s.heap.IsTuple l (intItems xs)) (hne : 0 < xs.size)
    (h : ∀ v h' tk, (intItems xs)[argBest (fun i j => decide (numAt xs i > numAt xs j)) (xs.size - 1)]? = some v → (∀ b o, s.heap.get? b = some o → h'.get? b = some o) → Q v { s with heap := h', toks := tk }) :
    wpAny (model prog w) A (call (.builtin "max") [.ref l]) Q E s := by
  refine call_max_walk (iter_tupA hl fun s₂ e st hfp hlI => ?_)
  subst e
  refine ⟨_, _, _, _, _, _, _, rfl, Walks.tuple (A := A.in1) hh _ l hlI (intItems xs), st, hfp, by simpa [intItems] using hne, CmpOf.ints_gt (numAt xs) (fun _ _ => intItems_at), fun v h' tk hP hk => ?_⟩
  exact h v h' tk (by simpa [intItems] using hP) (old_keptT hk)
theorem min_tupG {Q : Value → Shared → Prop} (hh : A.handled = none) (hl : s.heap.IsTuple l (intItems xs)) (hne : 0 < xs.size)
    (h : ∀ v h' tk, (intItems xs)[argBest (fun i j => decide (numAt xs i < numAt xs j)) (xs.size - 1)]? = some v → (∀ b o, s.heap.get? b = some o → h'.get? b = some o) → Q v { s with heap := h', toks := tk }) :
    wpAny (model prog w) A (call (.builtin "min") [.ref l]) Q E s := by
  refine call_min_walk (iter_tupA hl fun s₂ e st hfp hlI => ?_)
  subst e
  refine ⟨_, _, _, _, _, _, _, rfl, Walks.tuple (A := A.in1) hh _ l hlI (intItems xs), st, hfp, by simpa [intItems] using hne, CmpOf.ints_lt (numAt xs) (fun _ _ => intItems_at), fun v h' tk hP hk => ?_⟩
  exact h v h' tk (by simpa [intItems] using hP) (old_keptT hk)
theorem sum_rawT {Q : Value → Shared → Prop} (hh : A.handled = none) (hl : s.heap.IsTuple l its.toArray) (hi : IntsAre its ns)
    (h : ∀ h' tk t', (∀ b o, s.heap.get? b = some o → h'.get? b = some o) → Q (.int ns.sum t') { s with heap := h', toks := tk }) : wpAny (model prog w) A (call (.builtin "sum") [.ref l]) Q E s := by
  obtain ⟨xs, e⟩ := hi.allInts.items
  have hn : numsOf (intItems xs).toList = ns := by rw [← e]; exact hi.numsOf
  rw [nums_intItems] at hn
  rw [e] at hl
  refine sum_tupG hh hl fun h' tk t' hk => ?_
  have := h h' tk t' hk
  rw [preSum_eq, List.take_of_length_le (by simp), hn]; exact this
theorem max_rawT {Q : Value → Shared → Prop} (hh : A.handled = none) (hl : s.heap.IsTuple l its.toArray) (hi : IntsAre its ns) (hne : 0 < ns.length)
    (h : ∀ h' tk M t', (∀ b o, s.heap.get? b = some o → h'.get? b = some o) → M ∈ ns → (∀ a, a ∈ ns → a ≤ M) → Q (.int M t') { s with heap := h', toks := tk }) : wpAny (model prog w) A (call (.builtin "max") [.ref l]) Q E s := by
  obtain ⟨xs, e⟩ := hi.allInts.items
  have hn : numsOf (intItems xs).toList = ns := by rw [← e]; exact hi.numsOf
  rw [nums_intItems] at hn
  subst hn
  rw [e] at hl
  have hsz : 0 < xs.size := by simpa using hne
  refine max_tupG hh hl hsz fun v h' tk hv hk => ?_
  obtain ⟨t, rfl⟩ := intItems_at hv
  obtain ⟨h1, h2⟩ := argBest_gt (numAt xs) (xs.size - 1)
  refine h h' tk _ t hk ?_ fun a ha => ?_
  · rw [numAt_eq]; exact PySem.getD_mem (by rw [List.length_map, Array.length_toList]; omega)
  · obtain ⟨j, hj, rfl⟩ := mem_getD ha
    rw [List.length_map, Array.length_toList] at hj
    rw [← numAt_eq]; exact h2 j (by omega)
theorem min_rawT {Q : Value → Shared → Prop} (hh : A.handled = none) (hl : s.heap.IsTuple l its.toArray) (hi : IntsAre its ns) (hne : 0 < ns.length)
    (h : ∀ h' tk M t', (∀ b o, s.heap.get? b = some o → h'.get? b = some o) → M ∈ ns → (∀ a, a ∈ ns → M ≤ a) → Q (.int M t') { s with heap := h', toks := tk }) : wpAny (model prog w) A (call (.builtin "min") [.ref l]) Q E s := by
  obtain ⟨xs, e⟩ := hi.allInts.items
  have hn : numsOf (intItems xs).toList = ns := by rw [← e]; exact hi.numsOf
  rw [nums_intItems] at hn
  subst hn
  rw [e] at hl
  have hsz : 0 < xs.size := by simpa using hne
  refine min_tupG hh hl hsz fun v h' tk hv hk => ?_
  obtain ⟨t, rfl⟩ := intItems_at hv
  obtain ⟨h1, h2⟩ := argBest_lt (numAt xs) (xs.size - 1)
  refine h h' tk _ t hk ?_ fun a ha => ?_
  · rw [numAt_eq]; exact PySem.getD_mem (by rw [List.length_map, Array.length_toList]; omega)
  · obtain ⟨j, hj, rfl⟩ := mem_getD ha
    rw [List.length_map, Array.length_toList] at hj
    rw [← numAt_eq]; exact h2 j (by omega)
end
section
variable {X : Cx}
theorem cr_sumT (hc : X.calm = true) : CallR X (.builtin "sum") (fun vs H Q => ∃ (a : Addr) (ns : List Int), vs = [V.ref a] ∧ SqT X.K H a (ns.map V.int) ∧ Q (.int ns.sum) H) := by
  intro pins s σ H vs us Q I r h
  obtain ⟨a, ns, rfl, hs, q⟩ := h
  obtain ⟨its, rv, hl, _⟩ := I.tuple hs
  rw [Vals.ref1 r]
  exact sum_rawT (I.ok.hd hc) hl rv.ints fun h' tk t' hk => ⟨.int _, H, I.kept hk, ⟨_, rfl⟩, q⟩
theorem cr_maxT (hc : X.calm = true) : CallR X (.builtin "max") (fun vs H Q => ∃ (a : Addr) (ns : List Int), vs = [V.ref a] ∧ SqT X.K H a (ns.map V.int) ∧ 0 < ns.length ∧ ∀ m, m ∈ ns → (∀ y, y ∈ ns → y ≤ m) → Q (.int m) H) := by
  intro pins s σ H vs us Q I r h
  obtain ⟨a, ns, rfl, hs, hne, q⟩ := h
  obtain ⟨its, rv, hl, _⟩ := I.tuple hs
  rw [Vals.ref1 r]
  exact max_rawT (I.ok.hd hc) hl rv.ints hne fun h' tk m t' hk h1 h2 => ⟨.int _, H, I.kept hk, ⟨_, rfl⟩, q m h1 h2⟩
theorem cr_minT (hc : X.calm = true) : CallR X (.builtin "min") (fun vs H Q => ∃ (a : Addr) (ns : List Int), vs = [V.ref a] ∧ SqT X.K H a (ns.map V.int) ∧ 0 < ns.length ∧ ∀ m, m ∈ ns → (∀ y, y ∈ ns → m ≤ y) → Q (.int m) H) := by
  intro pins s σ H vs us Q I r h
  obtain ⟨a, ns, rfl, hs, hne, q⟩ := h
  obtain ⟨its, rv, hl, _⟩ := I.tuple hs
  rw [Vals.ref1 r]
  exact min_rawT (I.ok.hd hc) hl rv.ints hne fun h' tk m t' hk h1 h2 => ⟨.int _, H, I.kept hk, ⟨_, rfl⟩, q m h1 h2⟩
theorem cr_anyT (hc : X.calm = true) : CallR X (.builtin "any") (fun vs H Q => ∃ (a : Addr) (bs : List Bool), vs = [V.ref a] ∧ SqT X.K H a (bs.map V.bl) ∧ Q (.bl (bs.any id)) H) := by
  intro pins s σ H vs us Q I r h
  obtain ⟨a, bs, rfl, hs, q⟩ := h
  obtain ⟨its, rv, hl, _⟩ := I.tuple hs
  rw [Vals.ref1 r]
  have hb := rv.bls
  refine call_any_walk (iter_tupA hl fun s₂ e2 st _ hne => ?_)
  subst e2
  refine ⟨_, _, _, _, _, _, _, rfl, Walks.tuple (A := X.A.in1) (I.ok.hd hc) _ a hne its.toArray, st, truth_bools hb, fun h' tk hk => ?_⟩
  refine ⟨.bl _, H, I.kept fun b o eo => hk b o (fun hmem => ?_) (Heap.get?_push_of_some _ eo), ?_, q⟩
  · rcases List.mem_cons.mp hmem with e1 | hmem
    · exact absurd (e1 ▸ Heap.lt_size eo) (Nat.lt_irrefl _)
    · cases hmem
  · show Value.bool _ = Value.bool _
    rw [← L2.any_range, hb, List.size_toArray, List.length_map]
theorem cr_allT (hc : X.calm = true) : CallR X (.builtin "all") (fun vs H Q => ∃ (a : Addr) (bs : List Bool), vs = [V.ref a] ∧ SqT X.K H a (bs.map V.bl) ∧ Q (.bl (bs.all id)) H) := by
  intro pins s σ H vs us Q I r h
  obtain ⟨a, bs, rfl, hs, q⟩ := h
  obtain ⟨its, rv, hl, _⟩ := I.tuple hs
  rw [Vals.ref1 r]
  have hb := rv.bls
  refine call_all_walk (iter_tupA hl fun s₂ e2 st _ hne => ?_)
  subst e2
  refine ⟨_, _, _, _, _, _, _, rfl, Walks.tuple (A := X.A.in1) (I.ok.hd hc) _ a hne its.toArray, st, truth_bools hb, fun h' tk hk => ?_⟩
  refine ⟨.bl _, H, I.kept fun b o eo => hk b o (fun hmem => ?_) (Heap.get?_push_of_some _ eo), ?_, q⟩
  · rcases List.mem_cons.mp hmem with e1 | hmem
    · exact absurd (e1 ▸ Heap.lt_size eo) (Nat.lt_irrefl _)
    · cases hmem
  · show Value.bool _ = Value.bool _
    rw [← L2.all_range, hb, List.size_toArray, List.length_map]
end
section
variable {X : Cx}
theorem cr_sortedTup : CallR X (.builtin "sorted") (fun vs H Q => ∃ (a : Addr) (ns : List Int), vs = [V.ref a] ∧ SqT X.K H a (ns.map V.int) ∧ ∀ p, H p = none → Q (.ref p) (upd H p (.lst ((sortI ns).map V.int)))) := by
  intro pins s σ H vs us Q I rv h
  obtain ⟨a, ns, rfl, hs, q⟩ := h
  obtain ⟨its, rv', hl, hz⟩ := I.tuple hs
  rw [Vals.ref1 rv]
  have hi := rv'.ints
  refine sorted_tup hl hi (by rw [← rv'.length]; exact hz) fun out ns' h1 h2 h3 => ?_
  have e := sorted_eq (h2.trans (sortI_perm ns).symm) h3 (sortI_sorted ns)
  subst e
  obtain ⟨ep, he'⟩ := PyProof.Rows.sortedAll_at s.heap its out
  have hlen : ((sortI ns).map V.int).length ≤ sizeLine := by
    rw [List.length_map, (sortI_perm ns).length_eq]
    rw [List.length_map] at hz
    exact hz
  exact ⟨.ref _, upd H (s.heap.objs.size + 1) (.lst ((sortI ns).map V.int)), I.laid (t' := s.toks) (fun _ _ => PyProof.Rows.sortedAll_old) (Nat.le_succ _) ⟨hlen, out.toList, ep, vals_of_ints h1, by simpa using he'⟩, rfl, q _ (I.hok.fresh (Nat.le_succ _))⟩
variable {K : PySem.W.Frag} {r : List Addr} {H : Hp} {M : Mem}
theorem call_biE2 (hc : X.calm = true) (f : Bi) : CallR X (biC f) (rC1 X.K (biV2 f)) := by
  intro pins s σ H vs us Q I rv h
  obtain ⟨x, rfl, H0, r, M, a, w, m, hb0, ha, e, q⟩ := h
  unfold biV2 at e
  split at e
  · rename_i c
    by_cases hf : biT f = true ∨ asT a = none
    · exact call_biE hc f pins s σ H _ us Q I rv ⟨x, rfl, H0, r, M, a, w, m, hb0, ha, (if_pos hf).trans e, q⟩
    · have ht : asT a ≠ none := fun z => hf (.inr z)
      cases et : asT a with
      | none => exact absurd et ht
      | some l =>
       unfold biV asQ at e
       rw [et] at e
       simp only [Option.bind_some] at e
       obtain ⟨p, vs, rfl, h1, h2⟩ := asT_rep ha et
       cases f with
       | sorted =>
         simp only [biW, Option.map_eq_some_iff] at e
         obtain ⟨ns, e, rfl⟩ := e
         have ev := intsOf_rep h2 e
         subst ev
         exact cr_sortedTup pins s σ H _ us Q I rv ⟨p, ns, rfl, h1.sq, fun p' hp => new_list m hb0 (.ints _) hp q⟩
       | sum =>
         simp only [biW, Option.map_eq_some_iff] at e
         obtain ⟨ns, e, rfl⟩ := e
         have ev := intsOf_rep h2 e
         subst ev
         exact cr_sumT hc pins s σ H _ us Q I rv ⟨p, ns, rfl, h1.sq, q r H _ .refl m (.int _)⟩
       | all =>
         simp only [biW, Option.map_eq_some_iff] at e
         obtain ⟨ns, e, rfl⟩ := e
         have ev := blsOf_rep h2 e
         subst ev
         exact cr_allT hc pins s σ H _ us Q I rv ⟨p, ns, rfl, h1.sq, q r H _ .refl m (.bl _)⟩
       | any =>
         simp only [biW, Option.map_eq_some_iff] at e
         obtain ⟨ns, e, rfl⟩ := e
         have ev := blsOf_rep h2 e
         subst ev
         exact cr_anyT hc pins s σ H _ us Q I rv ⟨p, ns, rfl, h1.sq, q r H _ .refl m (.bl _)⟩
       | min =>
         simp only [biW, Option.bind_eq_some_iff, Option.map_eq_some_iff] at e
         obtain ⟨ns, e, i, e2, rfl⟩ := e
         have ev := intsOf_rep h2 e
         subst ev
         obtain ⟨h4, h5⟩ := minI_of e2
         refine cr_minT hc pins s σ H _ us Q I rv ⟨p, ns, rfl, h1.sq, List.length_pos_of_mem h4, fun k h6 h7 => ?_⟩
         have : k = i := by have := h7 i h4; have := h5 k h6; omega
         subst this
         exact q r H _ .refl m (.int _)
       | max =>
         simp only [biW, Option.bind_eq_some_iff, Option.map_eq_some_iff] at e
         obtain ⟨ns, e, i, e2, rfl⟩ := e
         have ev := intsOf_rep h2 e
         subst ev
         obtain ⟨h4, h5⟩ := maxI_of e2
         refine cr_maxT hc pins s σ H _ us Q I rv ⟨p, ns, rfl, h1.sq, List.length_pos_of_mem h4, fun k h6 h7 => ?_⟩
         have : k = i := by have := h7 i h4; have := h5 k h6; omega
         subst this
         exact q r H _ .refl m (.int _)
       | tuple => exact absurd (.inl rfl) hf
       | list => exact absurd (.inl rfl) hf
  · cases e
end
end Ev

/-! EvB5: what is walked: rows of either kind, enumerate, zip. -/
namespace Ev
open PySem PySem.Spec PyProof.Rows L2

/-! ### a list (false) or a tuple (true) -/
def SqB (b : Bool) (K : PySem.W.Frag) (H : Hp) (a : Addr) (xs : List V) : Prop := if b then SqT K H a xs else SqL K H a xs
def SrB (b : Bool) (h : Heap) (a : Addr) (its : Array Value) : Prop := if b then h.IsTuple a its else h.IsList a its
def ItB (b : Bool) (h : Heap) (it a : Addr) (i : Nat) : Prop := if b then h.IsTupleIter it a i else h.IsListIter it a i
def obB (b : Bool) (a : Addr) : Obj := if b then { cls := .type "tuple_iterator", data := .fields #[.ref a, .int 0 0] } else { cls := .type "list_iterator", data := .fields #[.ref a, .int 0 0] }
section
variable {X : Cx} {pins : List (Addr × Obj)} {σ : L2.St} {H : Hp} {s : Shared} {a : Addr} {xs ys : List V} {b : Bool}
theorem inv_sq (I : Inv X pins σ H s) (h : SqB b X.K H a xs) : ∃ its : List Value, Vals xs its ∧ SrB b s.heap a its.toArray ∧ xs.length ≤ sizeLine := by
  cases b with
  | true =>
    obtain ⟨its, r, p, z⟩ := I.tuple h
    exact ⟨its, r, p, z⟩
  | false =>
    obtain ⟨its, r, p, z⟩ := I.list h
    exact ⟨its, r, p.isList, z⟩
theorem inv_sq_inj (I : Inv X pins σ H s) (h : SqB b X.K H a xs) (h' : SqB b X.K H a ys) : xs = ys := by
  cases b with
  | true => exact I.tuple_inj h h'
  | false => exact I.list_inj h h'
theorem SrB.lt {h : Heap} {its : Array Value} (q : SrB b h a its) : a < h.objs.size := by
  cases b with
  | true => obtain ⟨o, e, _⟩ := q; exact Heap.lt_size e
  | false => obtain ⟨o, e, _⟩ := q; exact Heap.lt_size e
theorem ItB.cell {h : Heap} {it : Addr} {i : Nat} (q : ItB b h it a i) : ∃ o, h.get? it = some o ∧ ∀ v, o.data ≠ .cell v := by
  cases b with
  | true => obtain ⟨o, e, _, d⟩ := q; exact ⟨o, e, fun v z => by rw [d] at z; cases z⟩
  | false => obtain ⟨o, e, _, d⟩ := q; exact ⟨o, e, fun v z => by rw [d] at z; cases z⟩
theorem ItB.at {h h' : Heap} {it : Addr} {i : Nat} (q : ItB b h it a i) (k : ∀ o, h.get? it = some o → h'.get? it = some o) : ItB b h' it a i := by
  cases b with
  | true => exact Heap.IsTupleIter.at q k
  | false => exact Heap.IsListIter.at q k
theorem ItB.ofOb {h : Heap} {it : Addr} (q : h.get? it = some (obB b a)) : ItB b h it a 0 := by
  cases b with
  | true => exact ⟨_, q, rfl, rfl⟩
  | false => exact ⟨_, q, rfl, rfl⟩
end
theorem drawsB {prog : Program} {w : World} {A : Around} (b : Bool) (hh : A.handled = none) (it a : Addr) (hne : a ≠ it) (items : Array Value) :
    Draws prog w A it [it, a] items.size (fun i v => items[i]? = some v) (fun i h => ItB b h it a i ∧ SrB b h a items) := by
  cases b with
  | true => exact Draws.tuple hh it a hne items
  | false => exact Draws.list hh it a hne items
theorem beginsB (b : Bool) (a : Addr) (items : Array Value) : Begins (.ref a) (obB b a) fun h => SrB b h a items := by
  cases b with
  | true => exact begins_tuple a items
  | false => exact begins_list a items

/-! ### enumerate(row) -/
theorem enum_new1 {v : Value} {o : Obj} {H : Heap → Prop} (B : Begins v o H) :
    Meets (Builtin.«enumerate.__new__» ⟨[.type "enumerate", v], []⟩) (fun _ R s => H s.heap ∧
      R (.ok (.ret (.ref (s.heap.push o).objs.size))) { s with heap := (s.heap.push o).push { cls := .type "enumerate", data := .fields #[.none, .bool false, .ref s.heap.objs.size, rawInt 0, .none, .none] } }) :=
  .of_wp fun prog w A R s h => by
    obtain ⟨hp, g, d, tk, os⟩ := s; obtain ⟨h1, h⟩ := h
    have hsub := sub_enumerate
    have q1 : ∀ {A' : Around} {E : Value → Shared → Prop} {Q : Value → Shared → Prop}, Q (.ref hp.objs.size) ⟨hp.push o, g, d, tk, os⟩ → wpAny (model prog w) A' (pyIter v) Q E ⟨hp, g, d, tk, os⟩ :=
      fun q => B.iter prog w _ _ ⟨hp, g, d, tk, os⟩ _ h1 q
    wp_walk using q1
    refine wpAny_stack_any fun st => wpAny_pure ?_
    split
    · rename_i c _ _ _ _ _
      cases (c == Value.type "enumerate") <;> (wp_walk using q1; exact ⟨_, rfl, h⟩)
    · wp_walk using q1; exact ⟨_, rfl, h⟩
theorem enum_call1 {prog : Program} {w : World} {A : Around} {E : Value → Shared → Prop} {s : Shared} {v : Value} {o : Obj} {H : Heap → Prop} {Q : Value → Shared → Prop} (B : Begins v o H) (h1 : H s.heap)
    (h : ∀ h', IsEnum h' (s.heap.objs.size + 1) s.heap.objs.size 0 .none → h'.get? s.heap.objs.size = some o → (∀ b o, s.heap.get? b = some o → h'.get? b = some o) → Q (.ref (s.heap.objs.size + 1)) { s with heap := h' }) :
    wpAny (model prog w) A (call (.type "enumerate") [v]) Q E s := by
  refine callType_new F.called_enumerate (by decide) (F.typeCall_enumerate_1 _) (F.newCall_enumerate_1 _) (fun obj => F.args_object_init_2 obj _) F.entry_enumerate_new (enum_new1 B) ⟨h1, ?_⟩
  have hz : (s.heap.push o).objs.size = s.heap.objs.size + 1 := Heap.size_push ..
  show _ ∧ _; rw [hz]
  have he : IsEnum ((s.heap.push o).push { cls := .type "enumerate", data := .fields #[.none, .bool false, .ref s.heap.objs.size, rawInt 0, .none, .none] }) (s.heap.objs.size + 1) s.heap.objs.size 0 .none := by
    have q := Heap.get?_push_size (s.heap.push o) (o := { cls := .type "enumerate", data := .fields #[.none, .bool false, .ref s.heap.objs.size, rawInt 0, .none, .none] }) rfl
    rw [hz] at q; exact q
  exact ⟨⟨_, he, rfl⟩, h _ he (Heap.get?_push_of_some _ (Heap.get?_push_size _ B.free)) fun b o x => Heap.get?_push_of_some _ (Heap.get?_push_of_some _ x)⟩
def Je (b : Bool) (K : PySem.W.Frag) (a : Addr) : It :=
  ⟨fun i H => ∃ (xs : List V) (x : V), SqB b K H a xs ∧ xs[i]? = some x,
   fun i H v H' => ∃ T x o, v = .ref T ∧ H T = none ∧ o.dict = none ∧ H' = upd H T (.frz o (.tup [.int (i : Nat), x])) ∧ ∀ xs, SqB b K H a xs → xs[i]? = some x,
   fun i H => ∃ xs : List V, SqB b K H a xs ∧ xs.length = i⟩
theorem turn_e {P : Program} {w : World} {K : PySem.W.Frag} {elts : List Expr} {kk : Nat} {tpos : Pos} (b : Bool) (a e it : Addr) (hei : e ≠ it) (hea : e ≠ a) (hai : a ≠ it) :
    Turn P w K (.Tuple elts kk tpos) (Je b K a) [e, it] e (fun i h => (∃ old, IsEnum h e it ((i : Nat) : Int) old) ∧ ItB b h it a i) where
  mem := by simp
  obj := fun i h st c hc => by
    obtain ⟨⟨old, he⟩, hi⟩ := st
    have e' : c = e ∨ c = it := by simpa using hc
    rcases e' with z | z
    · rw [z]; exact ⟨_, he, fun v q => nomatch q⟩
    · rw [z]; exact hi.cell
  keep := fun i h h' st k => by
    obtain ⟨⟨old, he⟩, hi⟩ := st
    exact ⟨⟨old, k e (by simp) _ he⟩, hi.at (k it (by simp))⟩
  item := by
    intro X hP hw hK hc i pins s σ H E I hf st hg
    subst hP hw hK
    obtain ⟨hen, hit⟩ := st
    obtain ⟨xs, x, hq, hx⟩ := hg
    obtain ⟨its, rv, sr, hz⟩ := inv_sq I hq
    obtain ⟨u, hu, ru⟩ := rv.get hx
    have hi : i < its.toArray.size := by simpa using (List.getElem?_eq_some_iff.mp hu).1
    have D := drawsB b (prog := X.prog) (w := X.w) (A := X.A.in1) (I.ok.hd hc) it a hai its.toArray
    obtain ⟨old, he⟩ := hen
    have lt : ∀ c ∈ [e, it], c < s.heap.objs.size := fun c hcm => by
      have e' : c = e ∨ c = it := by simpa using hcm
      rcases e' with z | z
      · rw [z]; exact Heap.lt_size he
      · rw [z]; obtain ⟨_, q, _⟩ := hit.cell; exact Heap.lt_size q
    refine wpAny_pyNext_enum_itemC D he ⟨hit, sr⟩ hi hei (by simp [hei, hea]) fun z h' tk hz2 ho hs hT hsz hk => ?_
    refine ⟨_, rfl, wpAny_letOwnedTupleGo_enum (s := { s with heap := h', toks := tk + 1 }) ho fun h'' he' sb => ?_⟩
    have ez : u = z := by rw [List.getElem?_toArray] at hz2; rw [hu] at hz2; exact Option.some.inj hz2
    subst ez
    have hT2 : h''.get? s.heap.objs.size = some (TO [.int (i : Int) tk, u]) := (sb.2 _ (Nat.ne_of_gt (Heap.lt_size he))).trans hT
    have new : ObjOk X.prog X.w (upd H s.heap.objs.size (.frz (TO [.int (i : Int) tk, u]) (.tup [.int (i : Nat), x]))) h'' s.heap.objs.size (.frz (TO [.int (i : Int) tk, u]) (.tup [.int (i : Nat), x])) :=
      ⟨hT2, by rw [line_eq]; simp, [.int (i : Int) tk, u], .cons ⟨tk, rfl⟩ (.cons ru .nil), ⟨_, hT2, rfl, _, rfl⟩⟩
    refine ⟨.ref s.heap.objs.size, _, I.turnedNew (t' := tk + 1) (ch := [e, it]) (fun c o hcn q => (sb.2 c (fun z => hcn (by simp [z]))).trans (hk c o (fun z => hcn (by simp [z])) (fun z => hcn (by simp [z])) q)) hf (Nat.le_refl _) new, rfl, ⟨_, x, _, rfl, I.hok.fresh (Nat.le_refl _), rfl, rfl, fun ys hy => by rw [inv_sq_inj I hy hq]; exact hx⟩, ⟨⟨u, by simpa using he'⟩, hs.1.at fun o q => (sb.2 it (Ne.symm hei)).trans q⟩, fun c hcm => ?_⟩
    rw [upd_ne (Nat.ne_of_lt (lt c hcm))]
    exact (hf c hcm).1
  done := by
    intro X hP hw hK hc i pins s σ H E I hf st hg
    subst hP hw hK
    obtain ⟨hen, hit⟩ := st
    obtain ⟨xs, hq, hx⟩ := hg
    obtain ⟨its, rv, sr, hz⟩ := inv_sq I hq
    have hl := rv.length
    have G := GoesN.enumFrom (prog := X.prog) (w := X.w) (A := X.A) (elts := elts) (x1 := kk) (pos := tpos) 0 (drawsB b (A := X.A.in1) (I.ok.hd hc) it a hai its.toArray) e hei (by simp [hei, hea]) (by simp)
    have hn : its.toArray.size = i := by simp; omega
    exact G.stops s _ E (by rw [hn]; simpa using ⟨hen, hit, sr⟩) fun h' tk hk _ => I.turnedL (t' := tk) (ch := [e, it]) hk hf
  self := fun A i s Q E st h => let ⟨⟨_, he⟩, _⟩ := st; wpAny_pyIter_enum he h

/-! ### zip(row, row), zip(row, row, row) -/
def Jz (b1 b2 : Bool) (K : PySem.W.Frag) (a1 a2 : Addr) : It :=
  ⟨fun i H => ∃ (xs ys : List V) (x y : V), SqB b1 K H a1 xs ∧ SqB b2 K H a2 ys ∧ xs[i]? = some x ∧ ys[i]? = some y,
   fun i H v H' => ∃ T x y o, v = .ref T ∧ H T = none ∧ o.dict = none ∧ H' = upd H T (.frz o (.tup [x, y])) ∧ (∀ xs, SqB b1 K H a1 xs → xs[i]? = some x) ∧ ∀ ys, SqB b2 K H a2 ys → ys[i]? = some y,
   fun i H => ∃ xs ys : List V, SqB b1 K H a1 xs ∧ SqB b2 K H a2 ys ∧ min xs.length ys.length = i⟩
structure Ap2 (z TI TO i1 i2 a1 a2 : Addr) : Prop where
  sep : ZipSep2 z TI TO i1 i2 [i1, a1] [i2, a2]
  n1 : a1 ≠ i1
  n2 : a2 ≠ i2
theorem ap2 {N a1 a2 : Nat} (h1 : a1 < N) (h2 : a2 < N) : Ap2 (N + 4) (N + 2) (N + 3) N (N + 1) a1 a2 :=
  ⟨zip_sep2 (fp1 := [a1]) (fp2 := [a2]) (by simpa using h1) (by simpa using h2), Nat.ne_of_lt h1, by show (a2 : Nat) ≠ N + 1; omega⟩
theorem turn_z {P : Program} {w : World} {K : PySem.W.Frag} {elts : List Expr} {kk : Nat} {tpos : Pos} (b1 b2 : Bool) (z TI TO i1 i2 a1 a2 : Addr) (D : Ap2 z TI TO i1 i2 a1 a2) :
    Turn P w K (.Tuple elts kk tpos) (Jz b1 b2 K a1 a2) [z, TI, TO, i1, i2] z
      (fun i h => IsZip h z TI TO .none ∧ IsTupOf2 h TI (.ref i1) (.ref i2) ∧ (∃ x y, IsTupOf2 h TO x y) ∧ ItB b1 h i1 a1 i ∧ ItB b2 h i2 a2 i) where
  mem := by simp
  obj := fun i h st c hc => by
    obtain ⟨hz, hTI, ⟨x, y, hTO⟩, h1, h2⟩ := st
    have e' : c = z ∨ c = TI ∨ c = TO ∨ c = i1 ∨ c = i2 := by simpa using hc
    rcases e' with q | q | q | q | q
    · rw [q]; exact ⟨_, hz, fun v q => nomatch q⟩
    · rw [q]; exact ⟨_, hTI, fun v q => nomatch q⟩
    · rw [q]; exact ⟨_, hTO, fun v q => nomatch q⟩
    · rw [q]; exact h1.cell
    · rw [q]; exact h2.cell
  keep := fun i h h' st k => by
    obtain ⟨hz, hTI, ⟨x, y, hTO⟩, h1, h2⟩ := st
    exact ⟨k z (by simp) _ hz, k TI (by simp) _ hTI, ⟨x, y, k TO (by simp) _ hTO⟩, h1.at (k i1 (by simp)), h2.at (k i2 (by simp))⟩
  item := by
    intro X hP hw hK hc i pins s σ H E I hf st hg
    subst hP hw hK
    obtain ⟨hz, hTI, hTO, h1, h2⟩ := st
    obtain ⟨xs, ys, x, y, hq1, hq2, hx, hy⟩ := hg
    obtain ⟨its1, rv1, sr1, _⟩ := inv_sq I hq1
    obtain ⟨its2, rv2, sr2, _⟩ := inv_sq I hq2
    obtain ⟨u1, hu1, ru1⟩ := rv1.get hx
    obtain ⟨u2, hu2, ru2⟩ := rv2.get hy
    have l1 : i < its1.toArray.size := by simpa using (List.getElem?_eq_some_iff.mp hu1).1
    have l2 : i < its2.toArray.size := by simpa using (List.getElem?_eq_some_iff.mp hu2).1
    have D1 := drawsB b1 (prog := X.prog) (w := X.w) (A := X.A.in1) (I.ok.hd hc) i1 a1 D.n1 its1.toArray
    have D2 := drawsB b2 (prog := X.prog) (w := X.w) (A := X.A.in1) (I.ok.hd hc) i2 a2 D.n2 its2.toArray
    obtain ⟨x0, y0, hTO⟩ := hTO
    have lt : ∀ c ∈ [z, TI, TO, i1, i2], c < s.heap.objs.size := fun c hcm => by
      have e' : c = z ∨ c = TI ∨ c = TO ∨ c = i1 ∨ c = i2 := by simpa using hcm
      rcases e' with q | q | q | q | q
      · rw [q]; exact Heap.lt_size hz
      · rw [q]; exact Heap.lt_size hTI
      · rw [q]; exact Heap.lt_size hTO
      · rw [q]; obtain ⟨_, e, _⟩ := h1.cell; exact Heap.lt_size e
      · rw [q]; obtain ⟨_, e, _⟩ := h2.cell; exact Heap.lt_size e
    refine wpAny_pyNext_zipD2_item D.sep D1 D2 hz hTI hTO ⟨h1, sr1⟩ ⟨h2, sr2⟩ l1 l2 fun z1 z2 h' tk e1 e2 c1 c2 d1 d2 c5 c6 hk => ?_
    refine ⟨_, rfl, wpAny_letOwnedTupleGo_zip (s := { s with heap := h', toks := tk }) c1 fun h'' z'' sb => ?_⟩
    have q1 : u1 = z1 := by rw [List.getElem?_toArray] at e1; rw [hu1] at e1; exact Option.some.inj e1
    have q2 : u2 = z2 := by rw [List.getElem?_toArray] at e2; rw [hu2] at e2; exact Option.some.inj e2
    subst q1 q2
    have ne : ∀ c ∈ [TI, TO, i1, i2], c ≠ z := fun c hcm => by
      have e' : c = TI ∨ c = TO ∨ c = i1 ∨ c = i2 := by simpa using hcm
      rcases e' with q | q | q | q
      · rw [q]; exact D.sep.TIz
      · rw [q]; exact D.sep.TOz
      · rw [q]; exact fun y => D.sep.zf1 (by rw [← y]; exact D.sep.mem1)
      · rw [q]; exact fun y => D.sep.zf2 (by rw [← y]; exact D.sep.mem2)
    have hT2 : h''.get? s.heap.objs.size = some (Ev.TO [u1, u2]) := (sb.2 _ (Nat.ne_of_gt (Heap.lt_size hz))).trans c5
    have new : ObjOk X.prog X.w (upd H s.heap.objs.size (.frz (Ev.TO [u1, u2]) (.tup [x, y]))) h'' s.heap.objs.size (.frz (Ev.TO [u1, u2]) (.tup [x, y])) :=
      ⟨hT2, by rw [line_eq]; simp, [u1, u2], .cons ru1 (.cons ru2 .nil), ⟨_, hT2, rfl, _, rfl⟩⟩
    have kp : ∀ c o, c ∉ [z, TI, TO, i1, i2] → s.heap.get? c = some o → h''.get? c = some o := fun c o hcn q => by
      simp only [List.mem_cons, List.not_mem_nil, or_false, not_or] at hcn
      exact (sb.2 c hcn.1).trans (hk c o hcn.1 hcn.2.2.1 hcn.2.2.2.1 hcn.2.2.2.2 q)
    refine ⟨.ref s.heap.objs.size, _, I.turnedNew (t' := tk) (ch := [z, TI, TO, i1, i2]) kp hf (Nat.le_refl _) new, rfl, ⟨_, x, y, _, rfl, I.hok.fresh (Nat.le_refl _), rfl, rfl, fun l hl => by rw [inv_sq_inj I hl hq1]; exact hx, fun l hl => by rw [inv_sq_inj I hl hq2]; exact hy⟩, ⟨z'', ?_, ⟨u1, u2, ?_⟩, ?_, ?_⟩, fun c hcm => ?_⟩
    · exact (sb.2 _ D.sep.TIz).trans (hk _ _ D.sep.TIz D.sep.TITO D.sep.TIi1 D.sep.TIi2 hTI)
    · exact (sb.2 _ D.sep.TOz).trans c2
    · exact d1.1.at fun o q => (sb.2 _ (ne i1 (by simp))).trans q
    · exact d2.1.at fun o q => (sb.2 _ (ne i2 (by simp))).trans q
    · rw [upd_ne (Nat.ne_of_lt (lt c hcm))]
      exact (hf c hcm).1
  done := by
    intro X hP hw hK hc i pins s σ H E I hf st hg
    subst hP hw hK
    obtain ⟨hz, hTI, hTO, h1, h2⟩ := st
    obtain ⟨xs, ys, hq1, hq2, hx⟩ := hg
    obtain ⟨its1, rv1, sr1, _⟩ := inv_sq I hq1
    obtain ⟨its2, rv2, sr2, _⟩ := inv_sq I hq2
    have l1 := rv1.length
    have l2 := rv2.length
    have G := GoesN.zip2 (prog := X.prog) (w := X.w) (A := X.A) (elts := elts) (x1 := kk) (pos := tpos) D.sep (drawsB b1 (A := X.A.in1) (I.ok.hd hc) i1 a1 D.n1 its1.toArray) (drawsB b2 (A := X.A.in1) (I.ok.hd hc) i2 a2 D.n2 its2.toArray)
    have hn : min its1.toArray.size its2.toArray.size = i := by simp; omega
    exact G.stops s _ E (by rw [hn]; exact ⟨hz, hTI, hTO, ⟨h1, sr1⟩, h2, sr2⟩) fun h' tk hk _ => I.turnedL (t' := tk) (ch := [z, TI, TO, i1, i2]) (fun c o hcn => hk c o fun hm => hcn (by simp at hm ⊢; rcases hm with h | h | h | h <;> simp [h])) hf
  self := fun A i s Q E st h => wpAny_pyIter_zip st.1 h
end Ev

/-! EvB6: a small expression and the text's own; each form by its rule. -/
namespace Ev
open PySem PySem.Spec PyProof.Rows L2

/-! ### names -/
structure Nm where
  N : List Str
  sc : Scope
  st : Str → Bool
  dn : List Str
  cn : List Str
  bn : List Str
def Nm.vis (T : Nm) (x : Str) : Bool := T.sc.names.lookup x == some .local || T.sc.names.lookup x == some .cell || T.sc.names.lookup x == some .free
def Nm.glo (T : Nm) (x : Str) : Bool := T.sc.names.lookup x == some .globalImplicit
def Nm.sto (T : Nm) (x : Str) : Bool := T.sc.names.lookup x == some .local || (T.sc.names.lookup x == some .cell && T.st x)
def Nm.slot (T : Nm) (i : Nat) (x : Str) : Bool := T.N[i]? == some x
/-- a built-in's name -/
def Nm.bi (T : Nm) (n x : Str) : Bool := x == n && T.glo n && T.bn.contains n

/-- a def keeps a promise; nothing is raised; no repr is under way -/
structure FnG (P : Program) (w : World) (K : PySem.W.Frag) (mg : Str → Option Value) (base : Heap) (k : Nat) (f : Addr) (fd : FuncData) (ps : List Str) (sp : List V → Hp → VK → Prop) : Prop where
  len : ∀ vs H Q, sp vs H Q → vs.length = ps.length
  run : ∀ (A : Around) (outer : List PySem.Env) (s : Shared) (H : Hp) (args : Args) (us : List Value) (vs : List V) (Q : VK), Room k A → A.guards = some [] → Env0 P w K mg base A outer s H → BindsTo s fd args (ps.zip us) → Vals vs us → sp vs H Q →
    codeAny (model P w) A (.call (.ref f) args) (CR (fun _ _ _ _ _ _ => False) outer P w H s Q fun _ _ _ => False) s
/-- what a call comes to, by values -/
def spC (K : PySem.W.Frag) (C : Cl) (f : Nat) : List V → Hp → VK → Prop := fun vs H Q => ∃ (r : List Addr) (M : Mem) (l : List D) (w : W) (M' : Mem), RM K r H M ∧ RDs K r H l vs ∧ C.call f l M = .ok w M' ∧
  ∀ r' H' v, Stp r H r' H' → RM K r' H' M' → RW K H r' H' w v → Q v H'

structure Fit (T : Nm) (C : Cl) (X : Cx) : Prop where
  calm : X.calm = true
  gd : X.A.guards = some []
  un : X.A.units + 100 < cLine
  N : X.N = T.N
  nd : T.N.Nodup
  sc : X.env.scope = T.sc
  st : ∀ x, T.st x = true → X.fn x = true
  nx : X.xe = fun _ _ => False
  bt : ∀ x ∈ T.bn, X.mg x = none
  gl : ∀ (i : Nat) x, T.cn[i]? = some x → ∃ u v, X.mg x = some u ∧ RelV v u ∧ ∀ r H, RD X.K r H (C.glb i) v
  fn : ∀ (f : Nat) x, T.dn[f]? = some x → ∃ k fa fd ps, FnG X.prog X.w X.K X.mg X.base k fa fd ps (spC X.K C f) ∧ Room k X.A ∧ X.mg x = some (.ref fa) ∧ PySem.W.keepIn X.K (.ref fa) = true ∧ Binds X.K fd ps []

section
variable {T : Nm} {C : Cl} {X : Cx} {pos : Pos}
theorem Fit.vis (F : Fit T C X) {x : Str} (h : T.vis x = true) : Vis X.env.scope x := by
  unfold Nm.vis at h
  rw [F.sc]
  simp only [Bool.or_eq_true, beq_iff_eq] at h
  rcases h with (h | h) | h
  · exact .inl h
  · exact .inr (.inl h)
  · exact .inr (.inr h)
theorem Fit.glo (F : Fit T C X) {x : Str} (h : T.glo x = true) : Gl X x := by
  show X.env.scope.names.lookup x = _
  rw [F.sc]
  simpa [Nm.glo] using h
theorem Fit.loc (F : Fit T C X) {x : Str} (h : T.sto x = true) : L2.Loc X.env.scope x ∧ (X.fn x = true ∨ X.env.scope.names.lookup x = some .local) := by
  unfold Nm.sto at h
  unfold L2.Loc
  rw [F.sc]
  simp only [Bool.or_eq_true, Bool.and_eq_true, beq_iff_eq] at h
  rcases h with h | ⟨h, h2⟩
  · exact ⟨.inl h, .inr h⟩
  · exact ⟨.inr h, .inl (F.st x h2)⟩
theorem Fit.slot (F : Fit T C X) {i : Nat} {x : Str} (h : T.slot i x = true) : X.N[i]? = some x := by
  rw [F.N]; simpa [Nm.slot] using h
theorem Fit.bi (F : Fit T C X) {n x : Str} (h : T.bi n x = true) : x = n ∧ Gl X n ∧ X.mg n = none := by
  unfold Nm.bi at h
  simp only [Bool.and_eq_true, beq_iff_eq, List.contains_iff_mem] at h
  exact ⟨h.1.1, F.glo h.1.2, F.bt n h.2⟩

/-! ### calls of the text's defs -/
section
variable {k : Nat} {f : Addr} {fd : FuncData} {ps : List Str} {sp : List V → Hp → VK → Prop} {x : Str} {p : Pos} {e : Expr} {es : List Expr} {t : TA}
theorem run_G {pins : List (Addr × Obj)} {σ : L2.St} {H : Hp} {s : Shared} {Q : VK} {us : List Value} {vs : List V} (F : FnG X.prog X.w X.K X.mg X.base k f fd ps sp) (hr : Room k X.A) (hg : X.A.guards = some []) (hb : Binds X.K fd ps [])
    (I : Inv X pins σ H s) (r : Vals vs us) (h : sp vs H Q) : wpAny (model X.prog X.w) X.A (call (.ref f) us) (EP X pins σ Q) X.xe s := by
  have hl : (us ++ []).length = ps.length := by rw [List.append_nil, ← r.length]; exact F.len _ _ _ h
  have b := hb s us I.kIn hl
  rw [List.append_nil] at b
  refine wpAny_call (codeAny_mono (F.run X.A X.stack s H ⟨us, []⟩ us vs Q hr hg I.env0 b r h) fun q s' hq => ?_)
  cases q with
  | error e => exact False.elim hq
  | ok fl =>
    cases fl with
    | ret u => exact I.after hq
    | _ => exact False.elim hq
theorem pe_G (F : FnG X.prog X.w X.K X.mg X.base k f fd ps sp) (hr : Room k X.A) (hg : X.A.guards = some []) (hgl : Gl X x) (hm : X.mg x = some (.ref f)) (hk : PySem.W.keepIn X.K (.ref f) = true) (hb : Binds X.K fd ps [])
    (ha : PA X (e :: es) t) (hdb : (x == ("__debug__" : Str)) = false) (he : starEach (e :: es) X.env = (false, eval e X.env) :: starEach es X.env) (hpl : (backTo pos (starEach es X.env)).any (·.1) = false) :
    PE X (.Call (.Name x p) (e :: es) [] pos) (fun σ H Q => t σ H fun vs H1 => sp vs H1 Q) := by
  refine ⟨fun pins s σ H Q I h => wpAny_Call_Name_kw (ld_glob I hgl hm ?_ hdb)⟩
  exact PySem.W.callWith_K (h₀ := X.base) I.ok.mod.kin hk (thn (ha.run pos pins s σ H _ I h) fun us s1 ⟨vs, H1, I1, r, q⟩ => ⟨I1.kIn, run_G F hr hg hb I1 r q⟩) he hpl
theorem pe_G0 (F : FnG X.prog X.w X.K X.mg X.base k f fd ps sp) (hr : Room k X.A) (hg : X.A.guards = some []) (hgl : Gl X x) (hm : X.mg x = some (.ref f)) (hk : PySem.W.keepIn X.K (.ref f) = true) (hb : Binds X.K fd ps [])
    (hdb : (x == ("__debug__" : Str)) = false) : PE X (.Call (.Name x p) [] [] pos) (fun σ H Q => sp [] H Q) := by
  refine ⟨fun pins s σ H Q I h => wpAny_Call_Name_kw (ld_glob I hgl hm ?_ hdb)⟩
  exact PySem.W.callWith_K0 I.kIn hk (run_G (us := []) F hr hg hb I .nil h)
end

/-! ### the forms -/
/-- no star, no slice -/
def plainE : Expr → Bool
  | .Starred _ _ => false
  | .Slice _ _ _ _ => false
  | .Set _ _ _ => false
  | _ => true
theorem plain_star {e : Expr} {es : List Expr} {env : PySem.Env} (h : plainE e = true) : starEach (e :: es) env = (false, eval e env) :: starEach es env := by
  cases e <;> first | rfl | cases h
theorem plain_mark {e : Expr} {op : CmpOp} (h : plainE e = true) : behindInMarks op e = false := by
  cases e <;> first | rfl | cases h
theorem plain_ix {e : Expr} (h : plainE e = true) : PlainIx e := by
  intro o i
  cases e <;> first | rfl | cases h
theorem plain_fold {e : Expr} {env : PySem.Env} (h : plainE e = true) : ∀ x, foldedSetIterable e env x = pure x := by
  intro x
  cases e <;> first | rfl | cases h
theorem plain_any : ∀ {es : List Expr} {env : PySem.Env} {pos : Pos}, es.all plainE = true → (backTo pos (starEach es env)).any (·.1) = false
  | [], _, _, _ => rfl
  | e :: es, env, pos, h => by
    rw [List.all_cons, Bool.and_eq_true] at h
    rw [plain_star h.1]
    have ih := plain_any (env := env) (pos := pos) h.2
    unfold backTo at ih ⊢
    simp only [List.map_cons, List.any_cons, ih]
    rfl
/-- no super() -/
def nosuper : Expr → Bool
  | .Call (.Name _ _) [] [] _ => false
  | _ => true
theorem base_of {o : Expr} {a : Str} {env : PySem.Env} {w : Sem Value} (h : nosuper o = true) : attributeBase o a env w = w := by
  unfold attributeBase
  split
  · cases h
  · rfl

theorem Tm.go {α β : Type} {K : PySem.W.Frag} {f : Ev.Env → Mem → Res α} {R : Hp → List Addr → Hp → α → β → Prop} {t : L2.St} {H : Hp} {Q : β → Hp → Prop} (h : Tm K f R t H Q) :
    ∃ (s : Ev.Env) (M : Mem) (r : List Addr) (a : α) (M' : Mem), RS K r H s t ∧ RM K r H M ∧ f s M = .ok a M' ∧ ∀ r' H' b, Stp r H r' H' → RM K r' H' M' → R H r' H' a b → Q b H' := h

theorem s_var {i : Nat} {x : Str} (F : Fit T C X) (h1 : T.slot i x = true) (h2 : T.vis x = true) (h3 : (x == ("__debug__" : Str)) = false) (h4 : (x == ("__classdict__" : Str)) = false) : PE X (.Name x pos) (tE X.K C (.var i)) := by
  refine (pe_var (F.slot h1) (F.vis h2) h3 h4).imp fun t H Q h => ?_
  obtain ⟨s, M, r, w, M', hs, hm, e, q⟩ := h
  simp only [evE] at e
  split at e
  · rename_i d hd
    cases e
    obtain ⟨v, h5, h6⟩ := hs.at_ i d hd
    exact ⟨v, h5, q r H v .refl hm h6⟩
  · cases e
theorem s_glb {i : Nat} {x : Str} (F : Fit T C X) (h1 : T.cn[i]? = some x) (h2 : T.glo x = true) (h3 : (x == ("__debug__" : Str)) = false) : PE X (.Name x pos) (tE X.K C (.glb i)) := by
  obtain ⟨u, v, hu, hr, hd⟩ := F.gl i x h1
  refine (pe_glob (F.glo h2) hu hr h3).imp fun t H Q h => ?_
  obtain ⟨s, M, r, w, M', hs, hm, e, q⟩ := h
  cases e
  exact q r H v .refl hm (hd r H)
theorem s_num {i : Int} {j} : PE X (.Constant (.int i) j pos) (tE X.K C (.num i)) := pe_int.imp fun t H Q ⟨s, M, r, w, M', hs, hm, e, q⟩ => by cases e; exact q r H _ .refl hm (.int i)
theorem s_bl {i : Bool} {j} : PE X (.Constant (.bool i) j pos) (tE X.K C (.bl i)) := pe_bl.imp fun t H Q ⟨s, M, r, w, M', hs, hm, e, q⟩ => by cases e; exact q r H _ .refl hm (.bl i)
theorem s_str {i : Str} {j} : PE X (.Constant (.str i) j pos) (tE X.K C (.str i)) := pe_str.imp fun t H Q ⟨s, M, r, w, M', hs, hm, e, q⟩ => by cases e; exact q r H _ .refl hm (.str i)
theorem s_non {j} : PE X (.Constant .none j pos) (tE X.K C .non) := pe_non.imp fun t H Q ⟨s, M, r, w, M', hs, hm, e, q⟩ => by cases e; exact q r H _ .refl hm .non

/-- two in a row, then an operation by values -/
theorem two {a b : E} {R : R2} {f : Mem → W → W → Option W} {t : L2.St} {H : Hp} {Q : VK} {g : Ev.Env → Mem → Res W}
    (hg : ∀ s M w M', g s M = .ok w M' → ∃ x M1 y, evE C a s M = .ok x M1 ∧ evE C b s M1 = .ok y M' ∧ f M' x y = some w)
    (hR : ∀ x y H Q, rOp2 X.K f x y H Q → R x y H Q) (h : Tm X.K g (RW X.K) t H Q) : tOp R (tE X.K C a) (tE X.K C b) t H Q := by
  obtain ⟨s, M, r, w, M', hs, hm, e, q⟩ := h
  obtain ⟨x, M1, y, e1, e2, e3⟩ := hg s M w M' e
  refine ⟨s, M, r, x, M1, hs, hm, e1, fun r1 H1 v1 st1 m1 w1 => ?_⟩
  refine ⟨s, M1, r1, y, M', hs.gr (st1.gr hm), m1, e2, fun r2 H2 v2 st2 m2 w2 => hR _ _ _ _ ?_⟩
  refine ⟨H, r2, M', x, y, w, m2, fun p hp => (st1.trans st2).was hm m2 hp, w1.stp m1 st2, w2.back hm m1 st1, e3, fun r3 H3 v3 st3 m3 w3 => ?_⟩
  exact q r3 H3 v3 ((st1.trans st2).trans st3) m3 w3
theorem one_ {a : E} {R : V → Hp → VK → Prop} {f : Mem → W → Option W} {t : L2.St} {H : Hp} {Q : VK} {g : Ev.Env → Mem → Res W}
    (hg : ∀ s M w M', g s M = .ok w M' → ∃ x, evE C a s M = .ok x M' ∧ f M' x = some w)
    (hR : ∀ x H Q, rOp1 X.K f x H Q → R x H Q) (h : Tm X.K g (RW X.K) t H Q) : tUn R (tE X.K C a) t H Q := by
  obtain ⟨s, M, r, w, M', hs, hm, e, q⟩ := h
  obtain ⟨x, e1, e3⟩ := hg s M w M' e
  refine ⟨s, M, r, x, M', hs, hm, e1, fun r1 H1 v1 st1 m1 w1 => hR _ _ _ ?_⟩
  exact ⟨H, r1, M', x, w, m1, fun p hp => st1.was hm m1 hp, w1, e3, fun r3 H3 v3 st3 m3 w3 => q r3 H3 v3 (st1.trans st3) m3 w3⟩
theorem s_bop {o : Bop} {a b : E} {pa pb : Expr} (ha : PE X pa (tE X.K C a)) (hb : PE X pb (tE X.K C b)) : PE X (.BinOp pa (pyB o) pb pos) (tE X.K C (.bop o a b)) :=
  (pe_op (op_bin o) ha hb).imp fun t H Q h => two (f := opW o) (fun s M w M' e => by
    simp only [evE] at e
    obtain ⟨x, M1, e1, e⟩ := bind_ok e
    obtain ⟨y, M2, e2, e⟩ := bind_ok e
    obtain ⟨e3, rfl⟩ := opt_ok e
    exact ⟨x, M1, y, e1, e2, e3⟩) (fun _ _ _ _ h => h) h
theorem s_neg {a : E} {pa : Expr} (ha : PE X pa (tE X.K C a)) : PE X (.UnaryOp .USub pa pos) (tE X.K C (.neg a)) :=
  (pe_un op_neg ha).imp fun t H Q h => one_ (f := negW) (fun s M w M' e => by
    simp only [evE] at e
    obtain ⟨x, M1, e1, e⟩ := bind_ok e
    obtain ⟨e3, rfl⟩ := opt_ok e
    exact ⟨x, e1, e3⟩) (fun _ _ _ h => h) h
theorem s_cmp {o : Cop} {a b : E} {pa pb : Expr} (F : Fit T C X) (hp : plainE pb = true) (ha : PE X pa (tE X.K C a)) (hb : PE X pb (tE X.K C b)) : PE X (.Compare pa [pyC o] [pb] pos) (tE X.K C (.cmp o a b)) :=
  (pe_cmpR (op_cmp (by have := F.un; omega) o) ha hb (plain_mark hp)).imp fun t H Q h => two (f := cmpV o) (fun s M w M' e => by
    simp only [evE] at e
    obtain ⟨x, M1, e1, e⟩ := bind_ok e
    obtain ⟨y, M2, e2, e⟩ := bind_ok e
    obtain ⟨e3, rfl⟩ := opt_ok e
    exact ⟨x, M1, y, e1, e2, e3⟩) (fun _ _ _ _ h => h) h
theorem s_ix {a b : E} {pa pb : Expr} (hp : plainE pb = true) (ha : PE X pa (tE X.K C a)) (hb : PE X pb (tE X.K C b)) : PE X (.Subscript pa pb pos) (tE X.K C (.ix a b)) :=
  (pe_ix ix_ev ha hb (plain_ix hp)).imp fun t H Q h => two (f := ixW) (fun s M w M' e => by
    simp only [evE] at e
    obtain ⟨x, M1, e1, e⟩ := bind_ok e
    obtain ⟨y, M2, e2, e⟩ := bind_ok e
    obtain ⟨e3, rfl⟩ := opt_ok e
    exact ⟨x, M1, y, e1, e2, e3⟩) (fun _ _ _ _ h => h) h
/-- calls of one argument -/
theorem c1 {a : E} {r : List V → Hp → VK → Prop} {f : Mem → W → Option W} {t : L2.St} {H : Hp} {Q : VK} {g : Ev.Env → Mem → Res W}
    (hg : ∀ s M w M', g s M = .ok w M' → ∃ x, evE C a s M = .ok x M' ∧ f M' x = some w)
    (hR : ∀ x H Q, rOp1 X.K f x H Q → r [x] H Q) (h : Tm X.K g (RW X.K) t H Q) : tCB r (tCons (tE X.K C a) tNil) t H Q := by
  obtain ⟨s, M, rr, w, M', hs, hm, e, q⟩ := h
  obtain ⟨x, e1, e3⟩ := hg s M w M' e
  refine ⟨s, M, rr, x, M', hs, hm, e1, fun r1 H1 v1 st1 m1 w1 => hR _ _ _ ?_⟩
  exact ⟨H, r1, M', x, w, m1, fun p hp => st1.was hm m1 hp, w1, e3, fun r3 H3 v3 st3 m3 w3 => q r3 H3 v3 (st1.trans st3) m3 w3⟩
theorem c2 {a b : E} {r : List V → Hp → VK → Prop} {f : Mem → W → W → Option W} {t : L2.St} {H : Hp} {Q : VK} {g : Ev.Env → Mem → Res W}
    (hg : ∀ s M w M', g s M = .ok w M' → ∃ x M1 y, evE C a s M = .ok x M1 ∧ evE C b s M1 = .ok y M' ∧ f M' x y = some w)
    (hR : ∀ x y H Q, rOp2 X.K f x y H Q → r [x, y] H Q) (h : Tm X.K g (RW X.K) t H Q) : tCB r (tCons (tE X.K C a) (tCons (tE X.K C b) tNil)) t H Q := by
  obtain ⟨s, M, rr, w, M', hs, hm, e, q⟩ := h
  obtain ⟨x, M1, y, e1, e2, e3⟩ := hg s M w M' e
  refine ⟨s, M, rr, x, M1, hs, hm, e1, fun r1 H1 v1 st1 m1 w1 => ?_⟩
  refine ⟨s, M1, r1, y, M', hs.gr (st1.gr hm), m1, e2, fun r2 H2 v2 st2 m2 w2 => hR _ _ _ _ ?_⟩
  refine ⟨H, r2, M', x, y, w, m2, fun p hp => (st1.trans st2).was hm m2 hp, w1.stp m1 st2, w2.back hm m1 st1, e3, fun r3 H3 v3 st3 m3 w3 => ?_⟩
  exact q r3 H3 v3 ((st1.trans st2).trans st3) m3 w3
theorem ev1 {a : E} {f : Mem → W → Option W} {g : Ev.Env → Mem → Res W} (h : ∀ s M, g s M = (evE C a s M).bind fun x M1 => .opt (f M1 x) M1) : ∀ s M w M', g s M = .ok w M' → ∃ x, evE C a s M = .ok x M' ∧ f M' x = some w := by
  intro s M w M' e
  rw [h] at e
  obtain ⟨x, M1, e1, e⟩ := bind_ok e
  obtain ⟨e3, rfl⟩ := opt_ok e
  exact ⟨x, e1, e3⟩
variable {p : Pos} {x : Str}
theorem s_len {a : E} {pa : Expr} (F : Fit T C X) (hp : plainE pa = true) (hx : T.bi "len" x = true) (ha : PE X pa (tE X.K C a)) : PE X (.Call (.Name x p) [pa] [] pos) (tE X.K C (.len a)) := by
  obtain ⟨rfl, hg, hm⟩ := F.bi hx
  exact (pe_callB call_lenE hg hm PySem.boot_len (pa_cons ha pa_nil (plain_star hp)) (he := plain_star hp) (hpl := rfl)).imp fun t H Q h => c1 (f := lenV) (ev1 fun _ _ => by simp only [evE]; rfl) (fun _ _ _ h => ⟨_, rfl, h⟩) h
theorem s_abs {a : E} {pa : Expr} (F : Fit T C X) (hp : plainE pa = true) (hx : T.bi "abs" x = true) (ha : PE X pa (tE X.K C a)) : PE X (.Call (.Name x p) [pa] [] pos) (tE X.K C (.abs a)) := by
  obtain ⟨rfl, hg, hm⟩ := F.bi hx
  exact (pe_callB call_absE hg hm (by decide +kernel) (pa_cons ha pa_nil (plain_star hp)) (he := plain_star hp) (hpl := rfl)).imp fun t H Q h => c1 (f := absW) (ev1 fun _ _ => by simp only [evE]; rfl) (fun _ _ _ h => ⟨_, rfl, h⟩) h
theorem s_repr {a : E} {pa : Expr} (F : Fit T C X) (hp : plainE pa = true) (hx : T.bi "repr" x = true) (ha : PE X pa (tE X.K C a)) : PE X (.Call (.Name x p) [pa] [] pos) (tE X.K C (.repr a)) := by
  obtain ⟨rfl, hg, hm⟩ := F.bi hx
  exact (pe_callB (call_reprE F.gd F.un) hg hm (by decide +kernel) (pa_cons ha pa_nil (plain_star hp)) (he := plain_star hp) (hpl := rfl)).imp fun t H Q h => c1 (f := reprV) (ev1 fun _ _ => by simp only [evE]; rfl) (fun _ _ _ h => ⟨_, rfl, h⟩) h
theorem s_toint {a : E} {pa : Expr} (F : Fit T C X) (hp : plainE pa = true) (hx : T.bi "int" x = true) (ha : PE X pa (tE X.K C a)) : PE X (.Call (.Name x p) [pa] [] pos) (tE X.K C (.toint a)) := by
  obtain ⟨rfl, hg, hm⟩ := F.bi hx
  exact (pe_callTy call_intE hg hm (by decide +kernel) (pa_cons ha pa_nil (plain_star hp)) (he := plain_star hp) (hpl := rfl)).imp fun t H Q h => c1 (f := intW) (fun s M w M' e => by
    simp only [evE] at e
    obtain ⟨x, M1, e1, e⟩ := bind_ok e
    split at e
    · cases e; exact ⟨_, e1, rfl⟩
    · cases e; exact ⟨_, e1, rfl⟩
    · cases e) (fun _ _ _ h => ⟨_, rfl, h⟩) h
theorem s_min2 {a b : E} {pa pb : Expr} (F : Fit T C X) (hp : plainE pa = true) (hq : plainE pb = true) (hx : T.bi "min" x = true) (ha : PE X pa (tE X.K C a)) (hb : PE X pb (tE X.K C b)) : PE X (.Call (.Name x p) [pa, pb] [] pos) (tE X.K C (.min2 a b)) := by
  obtain ⟨rfl, hg, hm⟩ := F.bi hx
  exact (pe_callB (call_min2E F.calm) hg hm (by decide +kernel) (pa_cons ha (pa_cons hb pa_nil (plain_star hq)) (plain_star hp)) (he := plain_star hp) (hpl := plain_any (by rw [List.all_cons, hq]; rfl))).imp fun t H Q h => c2 (f := min2W) (fun s M w M' e => by
    simp only [evE] at e
    obtain ⟨x, M1, e1, e⟩ := bind_ok e
    obtain ⟨y, M2, e2, e⟩ := bind_ok e
    split at e
    · cases e; exact ⟨_, _, _, e1, e2, rfl⟩
    · cases e) (fun _ _ _ _ h => ⟨_, _, rfl, h⟩) h
theorem s_max2 {a b : E} {pa pb : Expr} (F : Fit T C X) (hp : plainE pa = true) (hq : plainE pb = true) (hx : T.bi "max" x = true) (ha : PE X pa (tE X.K C a)) (hb : PE X pb (tE X.K C b)) : PE X (.Call (.Name x p) [pa, pb] [] pos) (tE X.K C (.max2 a b)) := by
  obtain ⟨rfl, hg, hm⟩ := F.bi hx
  exact (pe_callB (call_max2E F.calm) hg hm (by decide +kernel) (pa_cons ha (pa_cons hb pa_nil (plain_star hq)) (plain_star hp)) (he := plain_star hp) (hpl := plain_any (by rw [List.all_cons, hq]; rfl))).imp fun t H Q h => c2 (f := max2W) (fun s M w M' e => by
    simp only [evE] at e
    obtain ⟨x, M1, e1, e⟩ := bind_ok e
    obtain ⟨y, M2, e2, e⟩ := bind_ok e
    split at e
    · cases e; exact ⟨_, _, _, e1, e2, rfl⟩
    · cases e) (fun _ _ _ _ h => ⟨_, _, rfl, h⟩) h
def tyS : Ty → Str
  | .int => "int" | .bool => "bool" | .str => "str" | .tuple => "tuple" | .list => "list" | .dict => "dict"
theorem s_isi {a : E} {t : Ty} {pa : Expr} {y : Str} {p2 : Pos} (F : Fit T C X) (hp : plainE pa = true) (hx : T.bi "isinstance" x = true) (hy : T.bi (tyS t) y = true) (ha : PE X pa (tE X.K C a)) : PE X (.Call (.Name x p) [pa, .Name y p2] [] pos) (tE X.K C (.isi a t)) := by
  obtain ⟨rfl, hg, hm⟩ := F.bi hx
  obtain ⟨rfl, hg2, hm2⟩ := F.bi hy
  have hty : PE X (.Name (tyS t) p2) (tC (.ty (tyN t))) := by cases t <;> exact pe_bltn hg2 hm2 (by decide +kernel) rfl
  refine (pe_callB (call_isiE t) hg hm (by decide +kernel) (pa_cons ha (pa_cons hty pa_nil rfl) (plain_star hp)) (he := plain_star hp) (hpl := rfl)).imp fun t' H Q h => ?_
  obtain ⟨s, M, rr, w, M', hs, hm, e, q⟩ := h
  simp only [evE] at e
  obtain ⟨y, M1, e1, e⟩ := bind_ok e
  obtain ⟨e3, rfl⟩ := opt_ok e
  refine ⟨s, M, rr, y, M', hs, hm, e1, fun r1 H1 v1 st1 m1 w1 => ⟨v1, rfl, ?_⟩⟩
  exact ⟨H, r1, M', y, w, m1, fun p hp => st1.was hm m1 hp, w1, e3, fun r3 H3 v3 st3 m3 w3 => q r3 H3 v3 (st1.trans st3) m3 w3⟩
end
end Ev

/-! EvB7: tests, and, or, not; rows of expressions; displays, slices, calls. -/
namespace Ev
open PySem PySem.Spec PyProof.Rows L2

/-- an expression of the text and the small one: as a value, as a test -/
structure Ex (X : Cx) (C : Cl) (e : E) (pe : Expr) : Prop where
  v : PE X pe (tE X.K C e)
  t : PT X pe (tB X.K C e)
  w : ∀ op l p, pe = .BoolOp op l p → PW X pe (tB X.K C e)
/-- its test is its value's -/
def plainT : Expr → Bool
  | .UnaryOp .Not _ _ => false
  | .BoolOp _ _ _ => false
  | .IfExp _ _ _ _ => false
  | .Compare _ _ _ _ => false
  | _ => true
def Es.len : Es → Nat
  | .nil => 0
  | .cons _ r => r.len + 1
section
variable {T : Nm} {C : Cl} {X : Cx} {pos : Pos}
theorem tb_ok {a : E} {s : Ev.Env} {M M' : Mem} {x : W} {b : Bool} (e1 : evE C a s M = .ok x M') (h : toB x = some b) : ((evE C a s M).bind fun x M1 => Res.opt (toB x) M1) = .ok b M' := by
  rw [e1]; show Res.opt (toB x) M' = _; rw [h]; rfl
theorem tB_tE {K : PySem.W.Frag} {e : E} {t : L2.St} {H : Hp} {Q : Bool → Hp → Prop} (h : tB K C e t H Q) : tE K C e t H (fun x H' => ∃ k, x = .bl k ∧ Q k H') := by
  obtain ⟨s, M, r, b, M', hs, hm, e, q⟩ := h
  obtain ⟨w, M1, e1, e⟩ := bind_ok e
  obtain ⟨e3, rfl⟩ := opt_ok e
  exact ⟨s, M, r, w, M', hs, hm, e1, fun r' H' v st m rw => ⟨b, toB_rep e3 rw, q r' H' b st m rfl⟩⟩
theorem isTrue_of {e : Expr} (h : plainT e = true) (env : PySem.Env) (whole : Sem Value) : isTrue e env whole = (do let v ← whole; standAt e.pos; holding [v] (truthy v)) := by
  cases e with
  | UnaryOp o x p => cases o <;> first | rfl | cases h
  | BoolOp _ _ _ => cases h
  | IfExp _ _ _ _ => cases h
  | Compare _ _ _ _ => cases h
  | _ => rfl
theorem ex_plain {e : E} {pe : Expr} (hp : plainT pe = true) (h : PE X pe (tE X.K C e)) : Ex X C e pe :=
  ⟨h, (pt_val h (isTrue_of hp X.env)).imp fun _ _ _ q => tB_tE q, fun _ _ _ z => by subst z; cases hp⟩

theorem x_not {a : E} {pa : Expr} (ha : Ex X C a pa) : Ex X C (.not a) (.UnaryOp .Not pa pos) := by
  refine ⟨(pe_not ha.v).imp fun t H Q h => ?_, (pt_not ha.t).imp fun t H Q h => ?_, fun _ _ _ z => by cases z⟩
  · obtain ⟨s, M, r, w, M', hs, hm, e, q⟩ := h
    simp only [evE] at e
    obtain ⟨x, M1, e1, e⟩ := bind_ok e
    obtain ⟨e3, rfl⟩ := opt_ok e
    obtain ⟨b, hb, rfl⟩ := Option.map_eq_some_iff.mp e3
    exact ⟨s, M, r, x, M', hs, hm, e1, fun r' H' v st m rw => ⟨b, toB_rep hb rw, q r' H' _ st m (.bl _)⟩⟩
  · obtain ⟨s, M, r, c, M', hs, hm, e, q⟩ := h
    obtain ⟨w, M1, e0, e2⟩ := bind_ok e
    obtain ⟨e4, rfl⟩ := opt_ok e2
    clear e
    have e := e0
    clear e0
    simp only [evE] at e
    obtain ⟨x, M1, e1, e⟩ := bind_ok e
    obtain ⟨e3, rfl⟩ := opt_ok e
    obtain ⟨b, hb, rfl⟩ := Option.map_eq_some_iff.mp e3
    cases e4
    exact ⟨s, M, r, b, M', hs, hm, tb_ok e1 hb, fun r' H' v st m rw => by subst rw; exact q r' H' _ st m rfl⟩
/-- the two ends of and, or -/
theorem andor_v {k : Bool} {a b c : E} (hc : ∀ s M, evE C c s M = (evE C a s M).bind fun x M1 => (Res.opt (toB x) M1).bind fun r M2 => if r = k then .ok (.v (.bl k)) M2 else (evE C b s M2).bind fun y M3 => .opt ((toB y).map fun i => .v (.bl i)) M3)
    {t : L2.St} {H : Hp} {Q : VK} (h : tE X.K C c t H Q) : tE X.K C a t H fun x H1 => ∃ d, x = .bl d ∧ if d = k then Q (.bl k) H1 else tE X.K C b t H1 fun x H2 => ∃ d, x = .bl d ∧ Q (.bl d) H2 := by
  obtain ⟨s, M, r, w, M', hs, hm, e, q⟩ := h
  rw [hc] at e
  obtain ⟨x, M1, e1, e'⟩ := bind_ok e
  clear e
  obtain ⟨d, M2, e2, e⟩ := bind_ok e'
  clear e'
  obtain ⟨e3, rfl⟩ := opt_ok e2
  refine ⟨s, M, r, x, M2, hs, hm, e1, fun r1 H1 v st1 m1 rw => ⟨d, toB_rep e3 rw, ?_⟩⟩
  by_cases z : d = k
  · rw [if_pos z] at e ⊢
    cases e
    exact q r1 H1 _ st1 m1 (.bl _)
  · rw [if_neg z] at e ⊢
    obtain ⟨y, M3, e4, e⟩ := bind_ok e
    obtain ⟨e5, rfl⟩ := opt_ok e
    obtain ⟨i, hi, rfl⟩ := Option.map_eq_some_iff.mp e5
    exact ⟨s, M2, r1, y, M', hs.gr (st1.gr hm), m1, e4, fun r2 H2 v2 st2 m2 rw2 => ⟨i, toB_rep hi rw2, q r2 H2 _ (st1.trans st2) m2 (.bl _)⟩⟩
theorem andor_t {k : Bool} {a b c : E} (hc : ∀ s M, evE C c s M = (evE C a s M).bind fun x M1 => (Res.opt (toB x) M1).bind fun r M2 => if r = k then .ok (.v (.bl k)) M2 else (evE C b s M2).bind fun y M3 => .opt ((toB y).map fun i => .v (.bl i)) M3)
    {t : L2.St} {H : Hp} {Q : Bool → Hp → Prop} (h : tB X.K C c t H Q) : tB X.K C a t H fun d H1 => if d = k then Q k H1 else tB X.K C b t H1 Q := by
  obtain ⟨s, M, r, c', M', hs, hm, e, q⟩ := h
  obtain ⟨w, M0, e0, e6⟩ := bind_ok e
  obtain ⟨e7, rfl⟩ := opt_ok e6
  clear e
  have e := e0
  clear e0
  rw [hc] at e
  obtain ⟨x, M1, e1, e'⟩ := bind_ok e
  clear e
  obtain ⟨d, M2, e2, e⟩ := bind_ok e'
  clear e'
  obtain ⟨e3, rfl⟩ := opt_ok e2
  refine ⟨s, M, r, d, M2, hs, hm, tb_ok e1 e3, fun r1 H1 v st1 m1 rw => ?_⟩
  subst rw
  by_cases z : d = k
  · rw [if_pos z] at e ⊢
    cases e
    cases e7
    exact q r1 H1 _ st1 m1 rfl
  · rw [if_neg z] at e ⊢
    obtain ⟨y, M3, e4, e⟩ := bind_ok e
    obtain ⟨e5, rfl⟩ := opt_ok e
    obtain ⟨i, hi, rfl⟩ := Option.map_eq_some_iff.mp e5
    cases e7
    exact ⟨s, M2, r1, c', M', hs.gr (st1.gr hm), m1, tb_ok e4 hi, fun r2 H2 v2 st2 m2 rw2 => by subst rw2; exact q r2 H2 _ (st1.trans st2) m2 rfl⟩
theorem and_ev (a b : E) (s : Ev.Env) (M : Mem) : evE C (.and a b) s M = (evE C a s M).bind fun x M1 => (Res.opt (toB x) M1).bind fun r M2 => if r = false then .ok (.v (.bl false)) M2 else (evE C b s M2).bind fun y M3 => .opt ((toB y).map fun i => .v (.bl i)) M3 := by
  simp only [evE]
  congr 1; funext x M1; congr 1; funext r M2
  cases r <;> rfl
theorem or_ev (a b : E) (s : Ev.Env) (M : Mem) : evE C (.or a b) s M = (evE C a s M).bind fun x M1 => (Res.opt (toB x) M1).bind fun r M2 => if r = true then .ok (.v (.bl true)) M2 else (evE C b s M2).bind fun y M3 => .opt ((toB y).map fun i => .v (.bl i)) M3 := by
  simp only [evE]
  congr 1; funext x M1; congr 1; funext r M2
  cases r <;> rfl
theorem swap_if {b : Bool} {P Q : Prop} (h : if b = false then P else Q) : if b = true then Q else P := by cases b <;> exact h
theorem x_and {a b : E} {pa pb : Expr} {rest : List Expr} (ha : Ex X C a pa) (hb : PE X (.BoolOp .And (pb :: rest) pos) (tE X.K C b)) (hw : PW X (.BoolOp .And (pb :: rest) pos) (tB X.K C b)) : Ex X C (.and a b) (.BoolOp .And (pa :: pb :: rest) pos) := by
  have w : PW X (.BoolOp .And (pa :: pb :: rest) pos) (tB X.K C (.and a b)) := (pw_and ha.t hw).imp fun t H Q h => by
    obtain ⟨s, M, r, d, M', hs, hm, e, q⟩ := andor_t (k := false) (and_ev a b) h
    exact ⟨s, M, r, d, M', hs, hm, e, fun r1 H1 v st1 m1 rw => swap_if (q r1 H1 v st1 m1 rw)⟩
  refine ⟨(pe_and ha.v (hb.imp (t' := fun t H Q => tE X.K C b t H fun x H1 => ∃ d, x = .bl d ∧ Q (.bl d) H1) fun t H Q h => ?_)).imp fun t H Q h => ?_, ⟨fun pins s σ H Q I h => w.run _ pins s σ H Q I h⟩, fun _ _ _ _ => w⟩
  · obtain ⟨s, M, r, d, M', hs, hm, e, q⟩ := h
    exact ⟨s, M, r, d, M', hs, hm, e, fun r1 H1 v st1 m1 rw => by obtain ⟨d, rfl, q⟩ := q r1 H1 v st1 m1 rw; exact q⟩
  · obtain ⟨s, M, r, d, M', hs, hm, e, q⟩ := andor_v (k := false) (and_ev a b) h
    exact ⟨s, M, r, d, M', hs, hm, e, fun r1 H1 v st1 m1 rw => by obtain ⟨d, rfl, q⟩ := q r1 H1 v st1 m1 rw; exact ⟨d, rfl, swap_if q⟩⟩
theorem x_or {a b : E} {pa pb : Expr} {rest : List Expr} (ha : Ex X C a pa) (hb : PE X (.BoolOp .Or (pb :: rest) pos) (tE X.K C b)) (hw : PW X (.BoolOp .Or (pb :: rest) pos) (tB X.K C b)) : Ex X C (.or a b) (.BoolOp .Or (pa :: pb :: rest) pos) := by
  have w : PW X (.BoolOp .Or (pa :: pb :: rest) pos) (tB X.K C (.or a b)) := (pw_or ha.t hw).imp fun t H Q h => andor_t (k := true) (or_ev a b) h
  refine ⟨(pe_or ha.v (hb.imp (t' := fun t H Q => tE X.K C b t H fun x H1 => ∃ d, x = .bl d ∧ Q (.bl d) H1) fun t H Q h => ?_)).imp fun t H Q h => andor_v (k := true) (or_ev a b) h, ⟨fun pins s σ H Q I h => w.run _ pins s σ H Q I h⟩, fun _ _ _ _ => w⟩
  obtain ⟨s, M, r, d, M', hs, hm, e, q⟩ := h
  exact ⟨s, M, r, d, M', hs, hm, e, fun r1 H1 v st1 m1 rw => by obtain ⟨d, rfl, q⟩ := q r1 H1 v st1 m1 rw; exact q⟩
theorem x_and1 {b : E} {pb : Expr} (hb : Ex X C b pb) : PE X (.BoolOp .And [pb] pos) (tE X.K C b) ∧ PW X (.BoolOp .And [pb] pos) (tB X.K C b) := ⟨pe_one hb.v, pw_and1 hb.t⟩
theorem x_or1 {b : E} {pb : Expr} (hb : Ex X C b pb) : PE X (.BoolOp .Or [pb] pos) (tE X.K C b) ∧ PW X (.BoolOp .Or [pb] pos) (tB X.K C b) := ⟨pe_one hb.v, pw_or1 hb.t⟩

theorem x_cmp {o : Cop} {a b : E} {pa pb : Expr} (F : Fit T C X) (hp : plainE pb = true) (ha : PE X pa (tE X.K C a)) (hb : PE X pb (tE X.K C b)) : Ex X C (.cmp o a b) (.Compare pa [pyC o] [pb] pos) := by
  refine ⟨s_cmp F hp ha hb, (pt_cmpR (op_cmp (by have := F.un; omega) o) ha hb (plain_mark hp)).imp fun t H Q h => ?_, fun _ _ _ z => by cases z⟩
  exact two (f := cmpV o) (fun s M w M' e => by
    simp only [evE] at e
    obtain ⟨x, M1, e1, e⟩ := bind_ok e
    obtain ⟨y, M2, e2, e⟩ := bind_ok e
    obtain ⟨e3, rfl⟩ := opt_ok e
    exact ⟨x, M1, y, e1, e2, e3⟩) (fun _ _ _ _ h => h) (tB_tE h)
theorem chain_v {o p : Cop} {a b c : E} {t : L2.St} {H : Hp} {Q : VK} (h : tE X.K C (.chain o p a b c) t H Q) : tChain (rOp2 X.K (cmpV o)) (rOp2 X.K (cmpV p)) (tE X.K C a) (tE X.K C b) (tE X.K C c) t H Q := by
  obtain ⟨s, M, r, w, M', hs, hm, e, q⟩ := h
  simp only [evE] at e
  obtain ⟨x, M1, e1, ea⟩ := bind_ok e
  obtain ⟨y, M2, e2, eb⟩ := bind_ok ea
  clear e ea
  obtain ⟨d, M3, e3, e⟩ := bind_ok eb
  clear eb
  obtain ⟨e4, rfl⟩ := opt_ok e3
  refine ⟨s, M, r, x, M1, hs, hm, e1, fun r1 H1 v1 st1 m1 w1 => ?_⟩
  refine ⟨s, M1, r1, y, M3, hs.gr (st1.gr hm), m1, e2, fun r2 H2 v2 st2 m2 w2 => ?_⟩
  refine ⟨H, r2, M3, x, y, .v (.bl d), m2, fun p hp => (st1.trans st2).was hm m2 hp, w1.stp m1 st2, w2.back hm m1 st1, by unfold cmpV; rw [e4]; rfl, fun r3 H3 v3 st3 m3 w3 => ⟨d, by cases w3; rfl, ?_⟩⟩
  cases d with
  | false =>
    cases e
    exact q r3 H3 _ ((st1.trans st2).trans st3) m3 (.bl _)
  | true =>
    simp only at e
    obtain ⟨z, M4, e5, e⟩ := bind_ok e
    obtain ⟨e6, rfl⟩ := opt_ok e
    have s3 := (st1.trans st2).trans st3
    refine ⟨s, M3, r3, z, M', hs.gr (s3.gr hm), m3, e5, fun r4 H4 v4 st4 m4 w4 => ?_⟩
    refine ⟨H, r4, M', y, z, w, m4, fun p hp => (s3.trans st4).was hm m4 hp, (w2.back hm m1 st1).stp m2 (st3.trans st4), w4.back hm m3 s3, e6, fun r5 H5 v5 st5 m5 w5 => ?_⟩
    exact q r5 H5 v5 ((s3.trans st4).trans st5) m5 w5
theorem x_chain {o p : Cop} {a b c : E} {pa pb pc : Expr} (F : Fit T C X) (hm : lastMarks [pyC o, pyC p] [pb, pc] = false) (ha : PE X pa (tE X.K C a)) (hb : PE X pb (tE X.K C b)) (hc : PE X pc (tE X.K C c)) :
    Ex X C (.chain o p a b c) (.Compare pa [pyC o, pyC p] [pb, pc] pos) := by
  have hu : X.A.units + 65 < cLine := by have := F.un; omega
  exact ⟨(pe_chain (op_cmp hu o) (op_cmp hu p) ha hb hc hm).imp fun t H Q h => chain_v h, (pt_chain (op_cmp hu o) (op_cmp hu p) ha hb hc hm).imp fun t H Q h => chain_v (tB_tE h), fun _ _ _ z => by cases z⟩
theorem pt_ifExp {tA tb tb' : TT} {c a b : Expr} (hc : PT X c tA) (ha : PT X a tb) (hb : PT X b tb') : PT X (.IfExp c a b pos) (fun σ H Q => tA σ H fun d H1 => if d = true then tb σ H1 Q else tb' σ H1 Q) := by
  refine ⟨fun pins s σ H Q I h => ?_⟩
  show wpAny (model X.prog X.w) X.A (do if ← isTrue c X.env (eval c X.env) then isTrue a X.env (eval a X.env) else isTrue b X.env (eval b X.env)) _ _ s
  refine wpAny_bind (thn (hc.run pins s σ H _ I h) fun d s1 ⟨H1, I1, q1⟩ => ?_)
  cases d with
  | true => exact ha.run pins s1 σ H1 Q I1 q1
  | false => exact hb.run pins s1 σ H1 Q I1 q1
theorem x_ite {c a b : E} {pc pa pb : Expr} (hc : Ex X C c pc) (ha : Ex X C a pa) (hb : Ex X C b pb) : Ex X C (.ite c a b) (.IfExp pc pa pb pos) := by
  refine ⟨(pe_ifExp hc.t ha.v hb.v).imp fun t H Q h => ?_, (pt_ifExp hc.t ha.t hb.t).imp fun t H Q h => ?_, fun _ _ _ z => by cases z⟩
  · obtain ⟨s, M, r, w, M', hs, hm, e, q⟩ := h
    simp only [evE] at e
    obtain ⟨x, M1, e1, e'⟩ := bind_ok e
    clear e
    obtain ⟨d, M2, e2, e⟩ := bind_ok e'
    clear e'
    obtain ⟨e3, rfl⟩ := opt_ok e2
    refine ⟨s, M, r, d, M2, hs, hm, tb_ok e1 e3, fun r1 H1 v st1 m1 rw => ?_⟩
    subst rw
    cases d with
    | true =>
      rw [if_pos rfl]
      exact ⟨s, M2, r1, w, M', hs.gr (st1.gr hm), m1, e, fun r2 H2 v2 st2 m2 w2 => q r2 H2 v2 (st1.trans st2) m2 (w2.back hm m1 st1)⟩
    | false =>
      rw [if_neg (by decide)]
      exact ⟨s, M2, r1, w, M', hs.gr (st1.gr hm), m1, e, fun r2 H2 v2 st2 m2 w2 => q r2 H2 v2 (st1.trans st2) m2 (w2.back hm m1 st1)⟩
  · obtain ⟨s, M, r, w, M', hs, hm, e, q⟩ := h
    simp only [evE] at e
    obtain ⟨w0, M0, e', e0⟩ := bind_ok e
    clear e
    have e := e'
    clear e'
    obtain ⟨x, M1, e1, e'⟩ := bind_ok e
    clear e
    obtain ⟨d, M2, e2, e⟩ := bind_ok e'
    clear e'
    obtain ⟨e3, rfl⟩ := opt_ok e2
    refine ⟨s, M, r, d, M2, hs, hm, tb_ok e1 e3, fun r1 H1 v st1 m1 rw => ?_⟩
    subst rw
    cases d with
    | true =>
      rw [if_pos rfl]
      exact ⟨s, M2, r1, w, M', hs.gr (st1.gr hm), m1, by
        simp only at e
        show (evE C _ s M2).bind _ = _
        rw [e]; exact e0, fun r2 H2 v2 st2 m2 w2 => q r2 H2 v2 (st1.trans st2) m2 w2⟩
    | false =>
      rw [if_neg (by decide)]
      exact ⟨s, M2, r1, w, M', hs.gr (st1.gr hm), m1, by
        simp only at e
        show (evE C _ s M2).bind _ = _
        rw [e]; exact e0, fun r2 H2 v2 st2 m2 w2 => q r2 H2 v2 (st1.trans st2) m2 w2⟩

/-! ### rows of expressions -/
theorem a_nil : PA X [] (tEs X.K C .nil) := pa_nil.imp fun t H Q ⟨s, M, r, l, M', hs, hm, e, q⟩ => by
  simp only [evEs] at e
  cases e
  exact q r H [] .refl hm .nil
theorem a_cons {e : E} {es : Es} {pe : Expr} {pes : List Expr} (hp : plainE pe = true) (he : PE X pe (tE X.K C e)) (hes : PA X pes (tEs X.K C es)) : PA X (pe :: pes) (tEs X.K C (.cons e es)) :=
  (pa_cons he hes (plain_star hp)).imp fun t H Q h => by
    obtain ⟨s, M, r, l, M', hs, hm, e, q⟩ := h
    simp only [evEs] at e
    obtain ⟨d, M2, e1, e⟩ := bind_ok e
    obtain ⟨w, M1, e1, ep⟩ := put_ok e1
    obtain ⟨l2, M3, e2, e⟩ := bind_ok e
    cases e
    refine ⟨s, M, r, w, M1, hs, hm, e1, fun r1 H1 v1 st1 m1 w1 => ?_⟩
    obtain ⟨r2, m2, st2, rd, g⟩ := put_rep hm m1 st1 w1 ep
    exact ⟨s, M2, r2, l2, M', hs.gr (st2.gr hm), m2, e2, fun r3 H3 vs st3 m3 rds => q r3 H3 _ (st2.trans st3) m3 (.cons (rd.gr (st3.gr m2)) rds)⟩
theorem pe_tupN {x1} {es : List Expr} {t : TA} (h : PA X es t) : PE X (.Tuple es x1 pos) (fun σ H Q => t σ H fun xs H1 => xs.length ≤ sizeLine ∧ newT xs Q H1) := by
  refine ⟨fun pins s σ H Q I hq => ?_⟩
  refine wpAny_Tuple_spliced (thn (h.run pos pins s σ H _ I hq) fun us s1 ⟨xs, H1, I1, r, hz, q⟩ => ⟨by rw [← r.length]; exact hz, ?_⟩)
  exact gotT I1 r hz q
theorem evEs_len : ∀ {es : Es} {s : Ev.Env} {M M' : Mem} {l : List D}, evEs C es s M = .ok l M' → l.length = es.len
  | .nil, s, M, M', l, e => by simp only [evEs] at e; cases e; rfl
  | .cons a r, s, M, M', l, e => by
    simp only [evEs] at e
    obtain ⟨d, M2, e1, ea⟩ := bind_ok e
    obtain ⟨l2, M3, e2, eb⟩ := bind_ok ea
    cases eb
    rw [List.length_cons, evEs_len e2]; rfl
theorem x_tup {es : Es} {pes : List Expr} {x1} (hl : es.len ≤ 1000) (h : PA X pes (tEs X.K C es)) : PE X (.Tuple pes x1 pos) (tE X.K C (.tup es)) :=
  (pe_tupN h).imp fun t H Q h => by
    obtain ⟨s, M, r, w, M', hs, hm, e, q⟩ := h
    simp only [evE] at e
    obtain ⟨l, M1, e1, ea⟩ := bind_ok e
    cases ea
    have hz : l.length ≤ sizeLine := by rw [evEs_len e1]; exact Nat.le_trans hl (by decide)
    refine ⟨s, M, r, l, M', hs, hm, e1, fun r1 H1 vs st1 m1 rds => ⟨by rw [← rds.length]; exact hz, fun p o hp hd => ?_⟩⟩
    exact new_tup (Q := Q) m1 rds hp hd fun r2 H2 v st2 m2 w2 => q r2 H2 v (st1.trans st2) m2 w2
theorem x_lst {es : Es} {pes : List Expr} (hl : es.len ≤ 1000) (h : PA X pes (tEs X.K C es)) : PE X (.List pes pos) (tE X.K C (.lst es)) :=
  (pe_lst h).imp fun t H Q h => by
    obtain ⟨s, M, r, w, M', hs, hm, e, q⟩ := h
    simp only [evE] at e
    obtain ⟨l, M1, e1, ea⟩ := bind_ok e
    cases ea
    have hz : l.length ≤ sizeLine := by rw [evEs_len e1]; exact Nat.le_trans hl (by decide)
    refine ⟨s, M, r, l, M', hs, hm, e1, fun r1 H1 vs st1 m1 rds => ⟨by rw [← rds.length]; exact hz, fun p hp => ?_⟩⟩
    exact new_list (Q := Q) (H0 := H) m1 (fun p hp => st1.was hm m1 hp) rds hp fun r2 H2 v st2 m2 w2 => q r2 H2 v (st1.trans st2) m2 w2
end
end Ev

/-! EvB8: slices, calls, what the built-ins make of a row or a range, methods of lists and tuples. -/
namespace Ev
open PySem PySem.Spec PyProof.Rows L2
section
variable {T : Nm} {C : Cl} {X : Cx} {pos : Pos}

/-! ### slices -/
theorem _root_.L2.PO.imp' {X : Cx} {e : Option Expr} {t t' : L2.TO} (h : PO X e t) (i : ∀ s H Q, t' s H Q → t s H Q) : PO X e t' := ⟨fun pins s σ H Q I q => h.run pins s σ H Q I (i σ H Q q)⟩
theorem o_none : PO X none (tO X.K C .none) := po_none.imp' fun t H Q h => by
  obtain ⟨s, M, r, o, M', hs, hm, e, q⟩ := h
  simp only [evO] at e
  cases e
  exact q r H none .refl hm rfl
theorem o_some {e : E} {pe : Expr} (h : PE X pe (tE X.K C e)) : PO X (some pe) (tO X.K C (.some e)) := (po_some h).imp' fun t H Q h => by
  obtain ⟨s, M, r, o, M', hs, hm, e, q⟩ := h
  simp only [evO] at e
  obtain ⟨x, M1, e1, ea⟩ := bind_ok e
  obtain ⟨e3, rfl⟩ := opt_ok ea
  obtain ⟨i, hi, rfl⟩ := Option.map_eq_some_iff.mp e3
  exact ⟨s, M, r, x, M', hs, hm, e1, fun r1 H1 v st m w => ⟨i, toI_rep hi w, q r1 H1 _ st m rfl⟩⟩
theorem x_sl {a : E} {lo hi : Eo} {pa : Expr} {pl ph : Option Expr} {p2 : Pos} (ha : PE X pa (tE X.K C a)) (hl : PO X pl (tO X.K C lo)) (hh : PO X ph (tO X.K C hi)) :
    PE X (.Subscript pa (.Slice pl ph none p2) pos) (tE X.K C (.sl a lo hi)) := (pe_slice sl_ev ha hl hh).imp fun t H Q h => by
  obtain ⟨s, M, r, w, M', hs, hm, e, q⟩ := h
  simp only [evE] at e
  obtain ⟨x, M1, e1, ea⟩ := bind_ok e
  obtain ⟨l, M2, e2, eb⟩ := bind_ok ea
  obtain ⟨h, M3, e3, ec⟩ := bind_ok eb
  obtain ⟨e4, rfl⟩ := opt_ok ec
  refine ⟨s, M, r, x, M1, hs, hm, e1, fun r1 H1 v1 st1 m1 w1 => ?_⟩
  refine ⟨s, M1, r1, l, M2, hs.gr (st1.gr hm), m1, e2, fun r2 H2 o2 st2 m2 w2 => ?_⟩
  refine ⟨s, M2, r2, h, M', hs.gr ((st1.trans st2).gr hm), m2, e3, fun r3 H3 o3 st3 m3 w3 => ?_⟩
  subst w2 w3
  have st := (st1.trans st2).trans st3
  refine ⟨H, r3, M', x, w, m3, fun p hp => st.was hm m3 hp, w1.stp m1 (st2.trans st3), e4, fun r4 H4 v4 st4 m4 w4 => q r4 H4 v4 (st.trans st4) m4 w4⟩

/-! ### calls of the text's defs -/
theorem spC_of {f : Nat} {es : Es} {t : L2.St} {H : Hp} {Q : VK} (h : tE X.K C (.call f es) t H Q) : tEs X.K C es t H fun vs H1 => spC X.K C f vs H1 Q := by
  obtain ⟨s, M, r, w, M', hs, hm, e, q⟩ := h
  simp only [evE] at e
  obtain ⟨l, M1, e1, ea⟩ := bind_ok e
  refine ⟨s, M, r, l, M1, hs, hm, e1, fun r1 H1 vs st1 m1 rds => ⟨r1, M1, l, w, M', m1, rds, ea, fun r2 H2 v st2 m2 w2 => q r2 H2 v (st1.trans st2) m2 (w2.back hm m1 st1)⟩⟩
theorem x_call {f : Nat} {e : E} {es : Es} {pe : Expr} {pes : List Expr} {x : Str} {p : Pos} (F : Fit T C X) (hd : T.dn[f]? = some x) (hg : T.glo x = true) (hdb : (x == ("__debug__" : Str)) = false) (hp : plainE pe = true) (hps : pes.all plainE = true)
    (ha : PA X (pe :: pes) (tEs X.K C (.cons e es))) : PE X (.Call (.Name x p) (pe :: pes) [] pos) (tE X.K C (.call f (.cons e es))) := by
  obtain ⟨k, fa, fd, ps, G, hr, hm, hk, hb⟩ := F.fn f x hd
  exact (pe_G G hr F.gd (F.glo hg) hm hk hb ha hdb (plain_star hp) (plain_any hps)).imp fun t H Q h => spC_of h
theorem x_call0 {f : Nat} {x : Str} {p : Pos} (F : Fit T C X) (hd : T.dn[f]? = some x) (hg : T.glo x = true) (hdb : (x == ("__debug__" : Str)) = false) : PE X (.Call (.Name x p) [] [] pos) (tE X.K C (.call f .nil)) := by
  obtain ⟨k, fa, fd, ps, G, hr, hm, hk, hb⟩ := F.fn f x hd
  exact (pe_G0 G hr F.gd (F.glo hg) hm hk hb hdb).imp fun t H Q h => by
    obtain ⟨s, M, r, l, M1, hs, hm, e, q⟩ := spC_of h
    simp only [evEs] at e
    cases e
    exact q r H [] .refl hm .nil

/-! ### tuple(..), list(..), sorted(..), sum(..) .. -/
def biS : Bi → Str
  | .tuple => "tuple" | .list => "list" | .sorted => "sorted" | .sum => "sum" | .all => "all" | .any => "any" | .min => "min" | .max => "max"
variable {x : Str} {p : Pos}
theorem x_bi {f : Bi} {a : E} {pa : Expr} (F : Fit T C X) (hp : plainE pa = true) (hx : T.bi (biS f) x = true) (ha : PE X pa (tE X.K C a)) : PE X (.Call (.Name x p) [pa] [] pos) (tE X.K C (.bi f (.val a))) := by
  obtain ⟨rfl, hg, hm⟩ := F.bi hx
  have A := pa_cons ha pa_nil (plain_star hp)
  have g : PE X (.Call (.Name (biS f) p) [pa] [] pos) (tCB (rC1 X.K (biV2 f)) (tCons (tE X.K C a) tNil)) := by
    have cr := call_biE2 (X := X) F.calm f
    cases f with
    | tuple => exact pe_callTy cr hg hm (by decide +kernel) A (he := plain_star hp) (hpl := rfl)
    | list => exact pe_callTy cr hg hm (by decide +kernel) A (he := plain_star hp) (hpl := rfl)
    | _ => exact pe_callB cr hg hm (by decide +kernel) A (he := plain_star hp) (hpl := rfl)
  exact g.imp fun t H Q h => c1 (f := biV2 f) (ev1 fun _ _ => by simp only [evE]) (fun _ _ _ h => ⟨_, rfl, h⟩) h
theorem rngD_rep {K : PySem.W.Frag} {r : List Addr} {H : Hp} (a b : Int) : RDs K r H (rngD a b) (rgV a b) := by
  unfold rngD rgV
  induction (List.range (b - a).toNat) with
  | nil => exact .nil
  | cons i r ih => exact .cons (.int _) ih
theorem rngOk_of {a b : Int} (h : RngOk a b) : RgOk a b := ⟨h.1, h.2.1, h.2.2.1, h.2.2.2.1, h.2.2.2.2⟩
def tRgN (K : PySem.W.Frag) (te : L2.St → Hp → (Int → Int → Hp → Prop) → Prop) : TE := fun t H Q => te t H fun a b H1 => RgOk a b ∧ newT (rgV a b) Q H1
theorem pe_tupRgN {e : Expr} {te : L2.St → Hp → (Int → Int → Hp → Prop) → Prop} (F0 : X.calm = true) (hg : Gl X "tuple") (hm : X.mg "tuple" = none) (he : PRg X e te) (na : starEach [e] X.env = (false, eval e X.env) :: starEach [] X.env) : PE X (.Call (.Name "tuple" p) [e] [] pos) (tRgN X.K te) := by
  refine ⟨fun pins s σ H Q I h => ?_⟩
  refine Call_ (ld_blt I hg hm boot_tuple (PyProof.Rows.callWith_type1 (args_cons (thn (he pins s σ H _ I h) fun x s1 ⟨r, a, b, t, u, v, H1, ex, hr, I1, ok, q⟩ => args_nil ?_) na) na))
  subst ex
  obtain ⟨b1, b2, b3, b4, b5⟩ := ok
  refine call_tuple_range (n := (b - a).toNat) (I1.ok.hd F0) hr (small_one b1 b2 b3 b4) (rangeSize_nat a b) b5 fun h' tk acc hk hi => ?_
  have I2 : Inv X pins σ H1 { s1 with heap := h', toks := tk } := I1.kept hk
  have z := gotT (its := acc.toList) I2 (vals_rg hi) (by rw [rgV_length, sizeLine_eq]; omega) q
  have ea : TO acc.toList = { cls := .type "tuple", data := .seq acc } := by unfold TO; rw [Array.toArray_toList]
  rw [ea] at z
  exact z
theorem rng_cases {f : Bi} {a b : Int} {w : W} {M : Mem} {r : List Addr} {H0 H1 : Hp} {Q : VK} (m : RM X.K r H1 M) (hb : ∀ p, H1 p = none → H0 p = none) (e : (if RngOk a b then biR f (rngD a b) else none) = some w)
    (q : ∀ r' H' v, Stp r H1 r' H' → RM X.K r' H' M → RW X.K H0 r' H' w v → Q v H') :
    RgOk a b ∧ ((f = .tuple ∧ newT (rgV a b) Q H1) ∨ (f = .list ∧ ∀ p, H1 p = none → Q (.ref p) (upd H1 p (.lst (rgV a b))))) := by
  split at e
  · rename_i c
    refine ⟨rngOk_of c, ?_⟩
    cases f <;> simp only [biR] at e <;> first | cases e | skip
    · exact .inl ⟨rfl, fun p o hp hd => new_tup m (rngD_rep a b) hp hd q⟩
    · exact .inr ⟨rfl, fun p hp => new_list m hb (rngD_rep a b) hp q⟩
  · cases e
theorem x_biR1 {f : Bi} {a : E} {pa : Expr} {y : Str} {p2 p3 : Pos} (F : Fit T C X) (hf : f = .tuple ∨ f = .list) (hp : plainE pa = true) (hx : T.bi (biS f) x = true) (hy : T.bi "range" y = true) (ha : PE X pa (tE X.K C a)) :
    PE X (.Call (.Name x p) [.Call (.Name y p2) [pa] [] p3] [] pos) (tE X.K C (.bi f (.rng1 a))) := by
  obtain ⟨rfl, hg, hm⟩ := F.bi hx
  obtain ⟨rfl, hg2, hm2⟩ := F.bi hy
  have R := prg_1 (X := X) (p := p2) (pos := p3) hg2 hm2 ha (plain_star hp)
  have key : ∀ {t : L2.St} {H : Hp} {Q : VK}, tE X.K C (.bi f (.rng1 a)) t H Q → tRg1 (tE X.K C a) t H fun i j H1 => RgOk i j ∧ ((f = .tuple ∧ newT (rgV i j) Q H1) ∨ (f = .list ∧ ∀ p, H1 p = none → Q (.ref p) (upd H1 p (.lst (rgV i j))))) := by
    intro t H Q h
    obtain ⟨s, M, r, w, M', hs, hm, e, q⟩ := h
    simp only [evE] at e
    obtain ⟨x, M1, e1, ea⟩ := bind_ok e
    obtain ⟨e4, rfl⟩ := opt_ok ea
    obtain ⟨i, hi, e5⟩ := Option.bind_eq_some_iff.mp e4
    exact ⟨s, M, r, x, M', hs, hm, e1, fun r1 H1 v1 st1 m1 w1 => ⟨i, toI_rep hi w1, rng_cases (H0 := H) m1 (fun p hp => st1.was hm m1 hp) e5 fun r2 H2 v2 st2 m2 w2 => q r2 H2 v2 (st1.trans st2) m2 w2⟩⟩
  rcases hf with rfl | rfl
  · exact (pe_tupRgN F.calm hg hm R rfl).imp fun t H Q h => by
      obtain ⟨s, M, r, w, M', hs, hm, e, q⟩ := key h
      exact ⟨s, M, r, w, M', hs, hm, e, fun r1 H1 v1 st1 m1 w1 => by
        obtain ⟨n, e, ok, q⟩ := q r1 H1 v1 st1 m1 w1
        rcases q with ⟨_, q⟩ | ⟨z, _⟩
        · exact ⟨n, e, ok, q⟩
        · cases z⟩
  · exact (pe_listRg F.calm hg hm R rfl).imp fun t H Q h => by
      obtain ⟨s, M, r, w, M', hs, hm, e, q⟩ := key h
      exact ⟨s, M, r, w, M', hs, hm, e, fun r1 H1 v1 st1 m1 w1 => by
        obtain ⟨n, e, ok, q⟩ := q r1 H1 v1 st1 m1 w1
        rcases q with ⟨z, _⟩ | ⟨_, q⟩
        · cases z
        · exact ⟨n, e, ok, q⟩⟩
theorem x_biR2 {f : Bi} {a b : E} {pa pb : Expr} {y : Str} {p2 p3 : Pos} (F : Fit T C X) (hf : f = .tuple ∨ f = .list) (hp : plainE pa = true) (hq : plainE pb = true) (hx : T.bi (biS f) x = true) (hy : T.bi "range" y = true) (ha : PE X pa (tE X.K C a)) (hb : PE X pb (tE X.K C b)) :
    PE X (.Call (.Name x p) [.Call (.Name y p2) [pa, pb] [] p3] [] pos) (tE X.K C (.bi f (.rng2 a b))) := by
  obtain ⟨rfl, hg, hm⟩ := F.bi hx
  obtain ⟨rfl, hg2, hm2⟩ := F.bi hy
  have R := prg_2 (X := X) (p := p2) (pos := p3) hg2 hm2 ha hb (plain_star hp) (plain_star hq) (hp := plain_any (by rw [List.all_cons, hq]; rfl))
  have key : ∀ {t : L2.St} {H : Hp} {Q : VK}, tE X.K C (.bi f (.rng2 a b)) t H Q → tRg2 (tE X.K C a) (tE X.K C b) t H fun i j H1 => RgOk i j ∧ ((f = .tuple ∧ newT (rgV i j) Q H1) ∨ (f = .list ∧ ∀ p, H1 p = none → Q (.ref p) (upd H1 p (.lst (rgV i j))))) := by
    intro t H Q h
    obtain ⟨s, M, r, w, M', hs, hm, e, q⟩ := h
    simp only [evE] at e
    obtain ⟨x, M1, e1, ea⟩ := bind_ok e
    obtain ⟨y, M2, e2, eb⟩ := bind_ok ea
    obtain ⟨e4, rfl⟩ := opt_ok eb
    obtain ⟨i, hi, e5⟩ := Option.bind_eq_some_iff.mp e4
    obtain ⟨j, hj, e6⟩ := Option.bind_eq_some_iff.mp e5
    refine ⟨s, M, r, x, M1, hs, hm, e1, fun r1 H1 v1 st1 m1 w1 => ⟨s, M1, r1, y, M', hs.gr (st1.gr hm), m1, e2, fun r2 H2 v2 st2 m2 w2 => ⟨i, j, toI_rep hi w1, toI_rep hj w2, ?_⟩⟩⟩
    exact rng_cases (H0 := H) m2 (fun p hp => (st1.trans st2).was hm m2 hp) e6 fun r3 H3 v3 st3 m3 w3 => q r3 H3 v3 ((st1.trans st2).trans st3) m3 w3
  rcases hf with rfl | rfl
  · exact (pe_tupRgN F.calm hg hm R rfl).imp fun t H Q h => by
      obtain ⟨s, M, r, w, M', hs, hm, e, q⟩ := key h
      exact ⟨s, M, r, w, M', hs, hm, e, fun r1 H1 v1 st1 m1 w1 => by
        obtain ⟨s, M, r, w, M', hs, hm, e, q⟩ := q r1 H1 v1 st1 m1 w1
        exact ⟨s, M, r, w, M', hs, hm, e, fun r1 H1 v1 st1 m1 w1 => by
          obtain ⟨n, n', e, e', ok, q⟩ := q r1 H1 v1 st1 m1 w1
          rcases q with ⟨_, q⟩ | ⟨z, _⟩
          · exact ⟨n, n', e, e', ok, q⟩
          · cases z⟩⟩
  · exact (pe_listRg F.calm hg hm R rfl).imp fun t H Q h => by
      obtain ⟨s, M, r, w, M', hs, hm, e, q⟩ := key h
      exact ⟨s, M, r, w, M', hs, hm, e, fun r1 H1 v1 st1 m1 w1 => by
        obtain ⟨s, M, r, w, M', hs, hm, e, q⟩ := q r1 H1 v1 st1 m1 w1
        exact ⟨s, M, r, w, M', hs, hm, e, fun r1 H1 v1 st1 m1 w1 => by
          obtain ⟨n, n', e, e', ok, q⟩ := q r1 H1 v1 st1 m1 w1
          rcases q with ⟨z, _⟩ | ⟨_, q⟩
          · cases z
          · exact ⟨n, n', e, e', ok, q⟩⟩⟩

/-! ### methods -/
section
variable {K : PySem.W.Frag} {r : List Addr} {H H0 : Hp} {M : Mem}
theorem recL_rep {w : W} {v : V} (m : RM K r H M) (h : RW K H0 r H w v) (e : recL M w = true) : ∃ n a vs, w = .v (.ref n) ∧ v = .ref a ∧ r[n]? = some a ∧ H a = some (.lst vs) := by
  cases w with
  | fl l => cases e
  | v d =>
    cases d with
    | ref n =>
      cases h with
      | ref hn =>
        obtain ⟨o, h1, h2⟩ := m.at hn
        simp only [recL, h1] at e
        cases o with
        | lst l' => obtain ⟨vs, h3, h4⟩ := h2; exact ⟨n, _, vs, rfl, rfl, hn, h3⟩
        | dct _ => cases e
        | ins _ _ => cases e
    | _ => cases e
theorem at_lst {n : Nat} {a : Addr} {l : List D} (m : RM K r H M) (h : M[n]? = some (.lst l)) (hn : r[n]? = some a) : ∃ vs, H a = some (.lst vs) ∧ RDs K r H l vs := by
  obtain ⟨a', h1, h2⟩ := m.obj n _ h
  rw [hn] at h1
  cases h1
  exact h2
theorem lwrite {n : Nat} {a : Addr} {l' : List D} {vs vs' : List V} (m : RM K r H M) (hn : r[n]? = some a) (hH : H a = some (.lst vs)) (h : RDs K r H l' vs') : RM K r (upd H a (.lst vs')) (M.set n (.lst l')) ∧ Stp r H r (upd H a (.lst vs')) := by
  have g : Gr r H r (upd H a (.lst vs')) := ⟨⟨fun b xs hb => by rw [upd_ne (fun z => by subst z; rw [hH] at hb; cases hb)]; exact hb, fun b o u hb => by rw [upd_ne (fun z => by subst z; rw [hH] at hb; cases hb)]; exact hb⟩, fun _ _ h => h⟩
  exact m.write hn ⟨vs', upd_same, h.gr g⟩
end
theorem few1 {e : Expr} (h : plainE e = true) : ((backTo pos (starEach [e] X.env)).all (fun x => !x.1) && (backToKw pos (keywordEach [] X.env)).all (fun x => x.1.isSome)
      && decide (([e] : List Expr).length + ([] : List Keyword).length + (if ([] : List Keyword).isEmpty then 0 else 1) < 30)) = true := by rw [plain_star h]; rfl
theorem few2 {e f : Expr} (h : plainE e = true) (h2 : plainE f = true) : ((backTo pos (starEach [e, f] X.env)).all (fun x => !x.1) && (backToKw pos (keywordEach [] X.env)).all (fun x => x.1.isSome)
      && decide (([e, f] : List Expr).length + ([] : List Keyword).length + (if ([] : List Keyword).isEmpty then 0 else 1) < 30)) = true := by rw [plain_star h, plain_star h2]; rfl
theorem x_app {o a : E} {po pa : Expr} {apos : Pos} (hns : nosuper po = true) (hl : (apos.endLine == pos.line) = true) (hp : plainE pa = true) (ho : PE X po (tE X.K C o)) (ha : PE X pa (tE X.K C a)) :
    PE X (.Call (.Attribute po "append" apos) [pa] [] pos) (tE X.K C (.app o a)) :=
  (pe_bm PySem.F.plainAttrs_list PySem.F.slot_list_append PySem.F.type_list_append mt_append ho (pa_cons ha pa_nil (plain_star hp)) (base_of hns) (few1 hp) hl (plain_star hp) rfl).imp fun t H Q h => by
    obtain ⟨s, M, r, w, M', hs, hm, e, q⟩ := h
    simp only [evE] at e
    obtain ⟨x, M1, e1, ea⟩ := bind_ok e
    split at ea
    · cases ea
    rename_i hrec
    obtain ⟨d, M2, e2, eb⟩ := bind_ok ea
    obtain ⟨y, M3, e3, ep⟩ := put_ok e2
    refine ⟨s, M, r, x, M1, hs, hm, e1, fun r1 H1 v1 st1 m1 w1 => ?_⟩
    obtain ⟨n, p, vs, rfl, rfl, hn, hH⟩ := recL_rep m1 w1 (by simpa using hrec)
    refine ⟨.inl ⟨rfl, vs, SqL.of hH⟩, ?_⟩
    refine ⟨s, M1, r1, y, M3, hs.gr (st1.gr hm), m1, e3, fun r2 H2 v2 st2 m2 w2 => ?_⟩
    obtain ⟨r3, m3, st3, rd, g⟩ := put_rep m1 m2 st2 w2 ep
    simp only at eb
    split at eb
    · rename_i l hl
      split at eb
      · rename_i hz
        cases eb
        have hn3 := (st3.gr m1).p _ _ hn
        obtain ⟨vs', hv, rds⟩ := at_lst m3 hl hn3
        obtain ⟨m4, st4⟩ := lwrite m3 hn3 hv (rds.append (.cons rd .nil))
        exact ⟨p, vs', v2, rfl, rfl, hv, by rw [← rds.length, sizeLine_eq]; exact hz, q r3 _ _ ((st1.trans st3).trans st4) m4 .non⟩
      · cases eb
    · cases eb
theorem x_ins {o i a : E} {po pi pa : Expr} {apos : Pos} (hns : nosuper po = true) (hl : (apos.endLine == pos.line) = true) (hq : plainE pi = true) (hp : plainE pa = true) (ho : PE X po (tE X.K C o)) (hi : PE X pi (tE X.K C i)) (ha : PE X pa (tE X.K C a)) :
    PE X (.Call (.Attribute po "insert" apos) [pi, pa] [] pos) (tE X.K C (.ins o i a)) :=
  (pe_bm PySem.F.plainAttrs_list PySem.F.slot_list_insert PySem.F.type_list_insert mt_insert ho (pa_cons hi (pa_cons ha pa_nil (plain_star hp)) (plain_star hq)) (base_of hns) (few2 hq hp) hl (plain_star hq) (plain_any (by rw [List.all_cons, hp]; rfl))).imp fun t H Q h => by
    obtain ⟨s, M, r, w, M', hs, hm, e, q⟩ := h
    simp only [evE] at e
    obtain ⟨x, M1, e1, ea⟩ := bind_ok e
    split at ea
    · cases ea
    rename_i hrec
    obtain ⟨k, M2, e2, eb⟩ := bind_ok ea
    obtain ⟨d, M3, e3, ec⟩ := bind_ok eb
    obtain ⟨y, M4, e4, ep⟩ := put_ok e3
    refine ⟨s, M, r, x, M1, hs, hm, e1, fun r1 H1 v1 st1 m1 w1 => ?_⟩
    obtain ⟨n, p, vs, rfl, rfl, hn, hH⟩ := recL_rep m1 w1 (by simpa using hrec)
    refine ⟨.inl ⟨rfl, vs, SqL.of hH⟩, ?_⟩
    refine ⟨s, M1, r1, k, M2, hs.gr (st1.gr hm), m1, e2, fun r2 H2 v2 st2 m2 w2 => ?_⟩
    refine ⟨s, M2, r2, y, M4, hs.gr ((st1.trans st2).gr hm), m2, e4, fun r3 H3 v3 st3 m3 w3 => ?_⟩
    obtain ⟨r4, m4, st4, rd, g⟩ := put_rep m2 m3 st3 w3 ep
    split at ec
    · rename_i n' k' en
      cases en
      split at ec
      · rename_i l hl
        split at ec
        · rename_i hz
          cases ec
          have hn4 := (st4.gr m2).p _ _ ((st2.gr m1).p _ _ hn)
          obtain ⟨vs', hv, rds⟩ := at_lst m4 hl hn4
          obtain ⟨m5, st5⟩ := lwrite (l' := insAt l k'.toNat d) (vs' := vs'.take k'.toNat ++ [v3] ++ vs'.drop k'.toNat) m4 hn4 hv (by
            rw [List.append_assoc]
            exact (rds.take _).append (.cons rd (rds.drop _)))
          cases w2
          exact ⟨p, vs', k', v3, rfl, rfl, hv, by rw [← rds.length, sizeLine_eq]; exact hz.1, hz.2.1, by omega, q r4 _ _ (((st1.trans st2).trans st4).trans st5) m5 .non⟩
        · cases ec
      · cases ec
    · cases ec
theorem x_pop {o : E} {po : Expr} {apos : Pos} (hns : nosuper po = true) (hl : (apos.endLine == pos.line) = true) (ho : PE X po (tE X.K C o)) :
    PE X (.Call (.Attribute po "pop" apos) [] [] pos) (tE X.K C (.pop o)) :=
  (pe_bm0 PySem.F.plainAttrs_list PySem.F.slot_list_pop PySem.F.type_list_pop mt_pop ho (base_of hns) hl).imp fun t H Q h => by
    obtain ⟨s, M, r, w, M', hs, hm, e, q⟩ := h
    simp only [evE] at e
    obtain ⟨x, M1, e1, ea⟩ := bind_ok e
    refine ⟨s, M, r, x, M1, hs, hm, e1, fun r1 H1 v1 st1 m1 w1 => ?_⟩
    split at ea
    · split at ea
      · rename_i n l hl
        split at ea
        · rename_i d hd
          cases ea
          cases w1 with
          | ref hn =>
            obtain ⟨vs, hv, rds⟩ := at_lst m1 hl hn
            obtain ⟨y, hy, rd⟩ := rds.get hd
            obtain ⟨m2, st2⟩ := lwrite m1 hn hv rds.dropLast
            exact ⟨.inl ⟨rfl, vs, SqL.of hv⟩, _, vs, y, rfl, rfl, hv, by rw [← rds.length]; exact hy, q r1 _ _ (st1.trans st2) m2 (rd.gr (st2.gr m1))⟩
        · cases ea
      · cases ea
    · cases ea
theorem x_popi {o i : E} {po pi : Expr} {apos : Pos} (hns : nosuper po = true) (hl : (apos.endLine == pos.line) = true) (hp : plainE pi = true) (ho : PE X po (tE X.K C o)) (hi : PE X pi (tE X.K C i)) :
    PE X (.Call (.Attribute po "pop" apos) [pi] [] pos) (tE X.K C (.popi o i)) :=
  (pe_bm PySem.F.plainAttrs_list PySem.F.slot_list_pop PySem.F.type_list_pop mt_popAt ho (pa_cons hi pa_nil (plain_star hp)) (base_of hns) (few1 hp) hl (plain_star hp) rfl).imp fun t H Q h => by
    obtain ⟨s, M, r, w, M', hs, hm, e, q⟩ := h
    simp only [evE] at e
    obtain ⟨x, M1, e1, ea⟩ := bind_ok e
    split at ea
    · cases ea
    rename_i hrec
    obtain ⟨k, M2, e2, eb⟩ := bind_ok ea
    refine ⟨s, M, r, x, M1, hs, hm, e1, fun r1 H1 v1 st1 m1 w1 => ?_⟩
    obtain ⟨n, p, vs, rfl, rfl, hn, hH⟩ := recL_rep m1 w1 (by simpa using hrec)
    refine ⟨.inl ⟨rfl, vs, SqL.of hH⟩, ?_⟩
    refine ⟨s, M1, r1, k, M2, hs.gr (st1.gr hm), m1, e2, fun r2 H2 v2 st2 m2 w2 => ?_⟩
    split at eb
    · rename_i n' k' en
      cases en
      split at eb
      · rename_i l hl
        split at eb
        · rename_i hz
          split at eb
          · rename_i j hj
            split at eb
            · rename_i d hd
              cases eb
              have hn2 := (st2.gr m1).p _ _ hn
              obtain ⟨vs', hv, rds⟩ := at_lst m2 hl hn2
              obtain ⟨y, hy, rd⟩ := rds.get hd
              obtain ⟨m3, st3⟩ := lwrite m2 hn2 hv (rds.eraseIdx j)
              cases w2
              exact ⟨p, vs', k', j, y, rfl, rfl, hv, by omega, by omega, by rw [← rds.length]; exact (ixN_seq hj).1, hy, q r2 _ _ ((st1.trans st2).trans st3) m3 (rd.gr (st3.gr m2))⟩
            · cases eb
          · cases eb
        · cases eb
      · cases eb
    · cases eb
theorem x_ext {o a : E} {po pa : Expr} {apos : Pos} (hns : nosuper po = true) (hl : (apos.endLine == pos.line) = true) (hp : plainE pa = true) (ho : PE X po (tE X.K C o)) (ha : PE X pa (tE X.K C a)) :
    PE X (.Call (.Attribute po "extend" apos) [pa] [] pos) (tE X.K C (.ext o a)) :=
  (pe_bm PySem.F.plainAttrs_list PySem.F.slot_list_extend PySem.F.type_list_extend mt_extend ho (pa_cons ha pa_nil (plain_star hp)) (base_of hns) (few1 hp) hl (plain_star hp) rfl).imp fun t H Q h => by
    obtain ⟨s, M, r, w, M', hs, hm, e, q⟩ := h
    simp only [evE] at e
    obtain ⟨x, M1, e1, ea⟩ := bind_ok e
    split at ea
    · cases ea
    rename_i hrec
    obtain ⟨y, M2, e2, eb⟩ := bind_ok ea
    refine ⟨s, M, r, x, M1, hs, hm, e1, fun r1 H1 v1 st1 m1 w1 => ?_⟩
    obtain ⟨n, p, vs, rfl, rfl, hn, hH⟩ := recL_rep m1 w1 (by simpa using hrec)
    refine ⟨.inl ⟨rfl, vs, SqL.of hH⟩, ?_⟩
    refine ⟨s, M1, r1, y, M2, hs.gr (st1.gr hm), m1, e2, fun r2 H2 v2 st2 m2 w2 => ?_⟩
    split at eb
    · rename_i n' r' en hr'
      cases en
      split at eb
      · rename_i l hl
        split at eb
        · rename_i hz
          cases eb
          have hn2 := (st2.gr m1).p _ _ hn
          obtain ⟨vs', hv, rds⟩ := at_lst m2 hl hn2
          obtain ⟨p2, vs2, rfl, hv2, rds2⟩ := asM_rep m2 w2 hr'
          obtain ⟨m3, st3⟩ := lwrite m2 hn2 hv (rds.append rds2)
          exact ⟨p, p2, vs', vs2, rfl, rfl, hv, hv2, by rw [← rds.length, ← rds2.length, sizeLine_eq]; exact hz, q r2 _ _ ((st1.trans st2).trans st3) m3 .non⟩
        · cases eb
      · cases eb
    · cases eb
end
end Ev

/-! EvB9: the place of a thing in a row; what is walked. -/
namespace Ev
open PySem PySem.Spec PyProof.Rows L2
section
variable {T : Nm} {C : Cl} {X : Cx} {pos : Pos}

/-! ### row.index(x) -/
theorem tup_is {pins : List (Addr × Obj)} {σ : L2.St} {H : Hp} {s : Shared} {p : Addr} {vs : List V} (I : Inv X pins σ H s) (h : TupAt H p vs) : s.TypeIs (.ref p) "tuple" ∧ ∀ a, Value.ref p = .ref a → ∃ ob, s.heap.get? a = some ob ∧ ob.dict = none := by
  obtain ⟨its, rv, pl, hz⟩ := I.tuple h.sq
  obtain ⟨o, ho, hc, n, hd⟩ := pl
  obtain ⟨o', e, d⟩ := h
  have e2 := (I.hok p _ e).1
  rw [ho] at e2
  cases e2
  exact ⟨⟨o, ho, hc⟩, fun a z => by cases z; exact ⟨o, ho, d⟩⟩
def rIdx (K : PySem.W.Frag) : V → List V → Hp → VK → Prop := fun x xs H Q => ∃ (a : Addr) (ys : List V) (y : V) (j : Nat) (z : V), x = V.ref a ∧ xs = [y] ∧ SqT K H a ys ∧ flatV y = true ∧ ys.all flatV = true ∧ ys[j]? = some z ∧ eqV z y = true ∧
  (∀ (m : Nat) (z' : V), m < j → ys[m]? = some z' → eqV z' y = false) ∧ Q (.int (j : Nat)) H
theorem mt_tidx : MtR X "tuple.index" (rIdx X.K) := by
  intro pins s σ H x xs v us Q I rx rxs h
  obtain ⟨a, ys, y, j, z, rfl, rfl, hs, fy, fys, hz, hzj, hno, q⟩ := h
  cases rx
  cases rxs with
  | cons ry rt =>
    rename_i uy ut
    cases rt
    obtain ⟨its, rv, ⟨⟨cls, dd, data, sl⟩, ho, hc, n, hd⟩, hlen⟩ := I.tuple hs
    simp only at hc hd
    subst hc hd
    obtain ⟨u, hu, ru⟩ := rv.get hz
    obtain ⟨hjl, hje⟩ := List.getElem?_eq_some_iff.mp hu
    have hvl := rv.length
    have hj : j < its.toArray.size := by simpa using hjl
    refine call_meets PySem.F.slot_tuple_index ⟨_, ho, rfl⟩ PySem.F.entry_tuple_index (PySem.F.args_tuple_index_2 _ _)
      (TI.tuple_indexAt a its.toArray n dd sl uy (eqU y) j hj ?_ ?_) ⟨ho, fun u' hu' => mem_eqAt ry fy rv fys u' (by simpa using hu'), ?_⟩
    · have e1 : its.toArray[j] = u := by simpa using hje
      rw [e1, eqU_of ru (flat_at fys hz)]
      exact hzj
    · intro m hm hmj
      have hml : m < its.length := by simpa using hm
      have hmy : m < ys.length := by omega
      have hy' : ys[m]? = some ys[m] := List.getElem?_eq_getElem hmy
      obtain ⟨u2, hu2, ru2⟩ := rv.get hy'
      obtain ⟨_, hme⟩ := List.getElem?_eq_some_iff.mp hu2
      have e1 : its.toArray[m] = u2 := by simpa using hme
      rw [e1, eqU_of ru2 (flat_at fys hy')]
      exact hno m _ hmj hy'
    · exact ⟨.int (j : Nat), H, I.tok _, ⟨_, rfl⟩, q⟩
def recIdx (K : PySem.W.Frag) (ta : TE) (t : L2.St) (Q : VK) : VK := fun x H1 =>
  (∃ a vs, x = .ref a ∧ H1 a = some (.lst vs) ∧ ta t H1 fun y H2 => rIndex K x [y] H2 Q) ∨ (∃ a vs, x = .ref a ∧ TupAt H1 a vs ∧ ta t H1 fun y H2 => rIdx K x [y] H2 Q)
theorem pe_idx {o a : Expr} {to ta : TE} {apos : Pos} (hns : nosuper o = true) (hl : (apos.endLine == pos.line) = true) (hp : plainE a = true) (ho : PE X o to) (ha : PE X a ta) :
    PE X (.Call (.Attribute o "index" apos) [a] [] pos) (fun t H Q => to t H (recIdx X.K ta t Q)) := by
  refine ⟨fun pins s σ H Q I h => ?_⟩
  refine wpAny_Call_method_late (base_of hns) (few1 hp) hl rfl (thn (ho.run pins s σ H _ I h) fun v s1 ⟨x, H1, I1, r1, q1⟩ => ?_)
  rcases q1 with ⟨p, vs, rfl, hH, q1⟩ | ⟨p, vs, rfl, hH, q1⟩
  · obtain ⟨h1, h2⟩ := tyV_is I1 r1 (T := "list") (.inl ⟨rfl, vs, SqL.of hH⟩)
    refine ⟨"list", _, PySem.F.plainAttrs_list, PySem.F.slot_list_index, PySem.F.type_list_index, h1, h2, ?_⟩
    have hA := ha.run pins s1 σ H1 _ I1 q1
    rw [plain_star hp]
    refine Calls.callWith_builtin rfl (Calls.evalArgs_plain ?_)
    exact Calls.spliced_cons (thn hA fun u s2 ⟨y, H2, I2, r2, q2⟩ => Calls.spliced_nil (mt_index pins s2 σ H2 _ [y] v [u] Q I2 r1 (.cons r2 .nil) q2))
  · cases r1
    obtain ⟨h1, h2⟩ := tup_is I1 hH
    refine ⟨"tuple", _, PySem.F.plainAttrs_tuple, PySem.F.slot_tuple_index, PySem.F.type_tuple_index, h1, h2, ?_⟩
    have hA := ha.run pins s1 σ H1 _ I1 q1
    rw [plain_star hp]
    refine Calls.callWith_builtin rfl (Calls.evalArgs_plain ?_)
    exact Calls.spliced_cons (thn hA fun u s2 ⟨y, H2, I2, r2, q2⟩ => Calls.spliced_nil (mt_tidx pins s2 σ H2 (.ref p) [y] (.ref p) [u] Q I2 rfl (.cons r2 .nil) q2))
theorem find_rep {K : PySem.W.Frag} {r : List Addr} {H : Hp} {d : D} {v : V} (hd : RD K r H d v) (fd : d.flat = true) : ∀ {l : List D} {vs : List V} {j : Nat}, RDs K r H l vs → l.all D.flat = true → (l.findIdx? fun y => eqF y d) = some j →
    ∃ z, vs[j]? = some z ∧ eqV z v = true ∧ ∀ (m : Nat) (z' : V), m < j → vs[m]? = some z' → eqV z' v = false
  | _, _, j, .nil, _, h => by simp at h
  | x :: l, u :: vs, j, .cons hx t, f, h => by
    rw [List.all_cons, Bool.and_eq_true] at f
    rw [List.findIdx?_cons] at h
    have ex := eqF_rep hx hd f.1 fd
    split at h
    · rename_i c
      cases h
      exact ⟨u, rfl, by rw [ex]; exact c, fun m z' hm => absurd hm (Nat.not_lt_zero _)⟩
    · rename_i c
      obtain ⟨j', hj, rfl⟩ := Option.map_eq_some_iff.mp h
      obtain ⟨z, h1, h2, h3⟩ := find_rep hd fd t f.2 hj
      refine ⟨z, by simpa using h1, h2, fun m z' hm hz => ?_⟩
      cases m with
      | zero => cases hz; rw [ex]; simpa using c
      | succ m => exact h3 m z' (by omega) (by simpa using hz)
theorem x_idx {o a : E} {po pa : Expr} {apos : Pos} (hns : nosuper po = true) (hl : (apos.endLine == pos.line) = true) (hp : plainE pa = true) (ho : PE X po (tE X.K C o)) (ha : PE X pa (tE X.K C a)) :
    PE X (.Call (.Attribute po "index" apos) [pa] [] pos) (tE X.K C (.idx o a)) :=
  (pe_idx hns hl hp ho ha).imp fun t H Q h => by
    obtain ⟨s, M, r, w, M', hs, hm, e, q⟩ := h
    simp only [evE] at e
    obtain ⟨x, M1, e1, ea⟩ := bind_ok e
    split at ea
    · cases ea
    rename_i hrec
    have hrec : recQ M1 x = true := by simpa using hrec
    obtain ⟨y, M2, e2, eb⟩ := bind_ok ea
    split at eb
    · rename_i l d hq
      split at eb
      · rename_i hf
        split at eb
        · rename_i j hj
          cases eb
          refine ⟨s, M, r, x, M1, hs, hm, e1, fun r1 H1 v1 st1 m1 w1 => ?_⟩
          have key : ∀ r2 H2 v2, Stp r1 H1 r2 H2 → RM X.K r2 H2 M' → RD X.K r2 H2 d v2 → ∃ p vs, v1 = .ref p ∧ ((asT x = some l ∧ TupAt H2 p vs) ∨ (asT x = none ∧ asL M' x = some l ∧ SqL X.K H2 p vs)) ∧ flatV v2 = true ∧ vs.all flatV = true ∧ ∃ z, vs[j]? = some z ∧ eqV z v2 = true ∧ (∀ (m : Nat) (z' : V), m < j → vs[m]? = some z' → eqV z' v2 = false) ∧ Q (.int (j : Nat)) H2 := by
            intro r2 H2 v2 st2 m2 rd
            obtain ⟨p, vs, e3, hc, rds⟩ := asQ_rep m2 (w1.stp m1 st2) hq
            obtain ⟨z, h1, h2, h3⟩ := find_rep rd hf.1 rds hf.2 hj
            exact ⟨p, vs, e3, hc, flat_rep rd hf.1, flats_rep rds hf.2, z, h1, h2, h3, q r2 H2 _ (st1.trans st2) m2 (.int _)⟩
          unfold recQ at hrec
          rw [Bool.or_eq_true] at hrec
          cases ht : asT x with
          | none =>
            rw [ht] at hrec
            rcases hrec with hrec | hrec
            · obtain ⟨n, p, vs, rfl, rfl, hn, hH⟩ := recL_rep m1 w1 hrec
              refine .inl ⟨p, vs, rfl, hH, s, M1, r1, _, M', hs.gr (st1.gr hm), m1, e2, fun r2 H2 v2 st2 m2 w2 => ?_⟩
              obtain ⟨p', vs', e3, hc, f1, f2, z, h1, h2, h3, h4⟩ := key r2 H2 v2 st2 m2 w2
              cases e3
              rcases hc with ⟨c, _⟩ | ⟨_, _, hc⟩
              · rw [ht] at c; cases c
              · exact ⟨_, vs', v2, j, z, rfl, rfl, hc, f1, f2, h1, h2, h3, h4⟩
            · cases hrec
          | some l' =>
            obtain ⟨p, vs, rfl, hH, rds⟩ := asT_rep w1 ht
            refine .inr ⟨p, vs, rfl, hH, s, M1, r1, _, M', hs.gr (st1.gr hm), m1, e2, fun r2 H2 v2 st2 m2 w2 => ?_⟩
            obtain ⟨p', vs', e3, hc, f1, f2, z, h1, h2, h3, h4⟩ := key r2 H2 v2 st2 m2 w2
            cases e3
            rcases hc with ⟨_, hc⟩ | ⟨c, _⟩
            · exact ⟨_, vs', v2, j, z, rfl, rfl, hc.sq, f1, f2, h1, h2, h3, h4⟩
            · rw [ht] at c; cases c
        · cases eb
      · cases eb
    · cases eb

/-! ### what is walked -/
/-- the turns of an iterator give these things, as long as the sources stay -/
def Rows (K : PySem.W.Frag) (J : It) (l : List D) (ss : List (Nat × O)) (r0 : List Addr) (H0 : Hp) : Prop := ∀ r H M, Stp r0 H0 r H → RM K r H M → SrcOk ss M → J.stop l.length H ∧
  ∀ i d, l[i]? = some d → J.go i H ∧ ∀ x H', J.yld i H x H' → Stp r H r H' ∧ RM K r H' M ∧ RD K r H' d x
def tI (K : PySem.W.Frag) (C : Cl) (i : I) : TI := fun t H R => ∃ s M r l ss M', RS K r H s t ∧ RM K r H M ∧ evI C i s M = .ok (l, ss) M' ∧ SrcOk ss M' ∧
  ∀ r' H' J, Stp r H r' H' → RM K r' H' M' → Rows K J l ss r' H' → l.length ≤ sizeLine → R J H'
theorem srcs_ok {M : Mem} {w : W} : SrcOk (srcs M w) M := by
  intro p hp
  unfold srcs at hp
  split at hp
  · split at hp
    · rename_i h
      rw [List.mem_singleton.mp hp]; exact h
    · cases hp
  · cases hp
theorem srcs_asQ {M M' : Mem} {w : W} {l : List D} (h : asQ M w = some l) (k : SrcOk (srcs M w) M') : asQ M' w = some l := by
  unfold asQ at h ⊢
  cases ht : asT w with
  | some l' => rw [ht] at h; exact h
  | none =>
    rw [ht] at h
    simp only at h ⊢
    cases w with
    | fl l' => exact h
    | v d =>
      cases d with
      | ref n =>
        cases e : M[n]? with
        | none => simp only [asL, e] at h; cases h
        | some o =>
          have e' : M'[n]? = some o := k (n, o) (by simp only [srcs, e]; exact List.mem_singleton.mpr rfl)
          simp only [asL, e, e'] at h ⊢
          exact h
      | _ => exact h
theorem SrcOk.left {a b : List (Nat × O)} {M : Mem} (h : SrcOk (a ++ b) M) : SrcOk a M := fun p hp => h p (List.mem_append_left _ hp)
theorem SrcOk.right {a b : List (Nat × O)} {M : Mem} (h : SrcOk (a ++ b) M) : SrcOk b M := fun p hp => h p (List.mem_append_right _ hp)
theorem SrcOk.both {a b : List (Nat × O)} {M : Mem} (h : SrcOk a M) (h2 : SrcOk b M) : SrcOk (a ++ b) M := fun p hp => (List.mem_append.mp hp).elim (h p) (h2 p)
/-- a row that is walked stands as a list or as a tuple, the same to the end -/
theorem row_stays {K : PySem.W.Frag} {Hb : Hp} {r0 : List Addr} {H0 : Hp} {M0 : Mem} {w : W} {v : V} {l : List D} (m0 : RM K r0 H0 M0) (h : RW K Hb r0 H0 w v) (e : asQ M0 w = some l) :
    ∃ a, v = .ref a ∧ (∃ vs, SqB (asT w).isSome K H0 a vs ∧ vs.length = l.length) ∧ ∀ r H M, Stp r0 H0 r H → RM K r H M → SrcOk (srcs M0 w) M → ∃ vs, SqB (asT w).isSome K H a vs ∧ RDs K r H l vs := by
  have one : ∀ r H M, Stp r0 H0 r H → RM K r H M → SrcOk (srcs M0 w) M → ∃ a vs, v = .ref a ∧ SqB (asT w).isSome K H a vs ∧ RDs K r H l vs := by
    intro r H M st m k
    obtain ⟨a, vs, e1, hc, rds⟩ := asQ_rep m (h.stp m0 st) (srcs_asQ e k)
    refine ⟨a, vs, e1, ?_, rds⟩
    rcases hc with ⟨c, hc⟩ | ⟨c, _, hc⟩
    · rw [c]; exact hc.sq
    · rw [c]; exact hc
  obtain ⟨a, vs, rfl, h1, h0⟩ := one r0 H0 M0 .refl m0 srcs_ok
  exact ⟨a, rfl, ⟨vs, h1, h0.length.symm⟩, fun r H M st m k => by
    obtain ⟨a', vs', e', h2, h3⟩ := one r H M st m k
    cases e'
    exact ⟨vs', h2, h3⟩⟩
theorem i_val {tg : Expr} {e : E} {pe : Expr} (he : PE X pe (tE X.K C e)) : PI X tg pe (tI X.K C (.val e)) := by
  refine ⟨fun pins s σ H R I h => ?_⟩
  obtain ⟨s0, M, r, l, ss, M', hs, hm, e, hk, q⟩ := h
  simp only [evI] at e
  obtain ⟨w, M1, e1, ea⟩ := bind_ok e
  obtain ⟨e2, rfl⟩ := opt_ok ea
  obtain ⟨l', e3, e4⟩ := Option.map_eq_some_iff.mp e2
  cases e4
  refine thn (he.run pins s σ H (fun x H1 => ∃ a, x = .ref a ∧ ((asT w).isSome = false → ∃ xs, SqL X.K H1 a xs ∧ xs.length = l.length) ∧ ((asT w).isSome = true → ∃ xs, SqT X.K H1 a xs ∧ xs.length = l.length) ∧ ((asT w).isSome = false → l.length ≤ sizeLine → R (Itl X.K a) H1) ∧ ((asT w).isSome = true → l.length ≤ sizeLine → R (Itt X.K a) H1)) I ⟨s0, M, r, w, M', hs, hm, e1, fun r1 H1 v1 st1 m1 w1 => ?_⟩) fun v s1 ⟨x, H1, I1, r1, q1⟩ => ?_
  · obtain ⟨a, rfl, ⟨vs, h1, hlen⟩, st⟩ := row_stays m1 w1 e3
    refine ⟨a, rfl, fun z => ?_, fun z => ?_, fun z hz => q r1 H1 _ st1 m1 ?_ hz, fun z hz => q r1 H1 _ st1 m1 ?_ hz⟩
    · rw [z] at h1; exact ⟨vs, h1, hlen⟩
    · rw [z] at h1; exact ⟨vs, h1, hlen⟩
    · intro r2 H2 M2 st2 m2 k2
      obtain ⟨vs2, h2, rds⟩ := st r2 H2 M2 st2 m2 k2
      rw [z] at h2
      refine ⟨⟨vs2, h2, by rw [← rds.length]; exact Nat.le_refl _⟩, fun i d hd => ?_⟩
      obtain ⟨v, h3, h4⟩ := rds.get hd
      refine ⟨⟨vs2, v, h2, h3⟩, fun x H' hy => ?_⟩
      obtain ⟨rfl, hy⟩ := hy
      have hx := hy vs2 h2
      rw [h3] at hx
      cases hx
      exact ⟨.refl, m2, h4⟩
    · intro r2 H2 M2 st2 m2 k2
      obtain ⟨vs2, h2, rds⟩ := st r2 H2 M2 st2 m2 k2
      rw [z] at h2
      refine ⟨⟨vs2, h2, by rw [← rds.length]; exact Nat.le_refl _⟩, fun i d hd => ?_⟩
      obtain ⟨v, h3, h4⟩ := rds.get hd
      refine ⟨⟨vs2, v, h2, h3⟩, fun x H' hy => ?_⟩
      obtain ⟨rfl, hy⟩ := hy
      have hx := hy vs2 h2
      rw [h3] at hx
      cases hx
      exact ⟨.refl, m2, h4⟩
  · obtain ⟨a, rfl, h1, h2, h3, h4⟩ := q1
    cases r1
    have fp : ∀ b ∈ [s1.heap.objs.size], FpOk X pins H1 b := fun b hb => by
      have e : b = s1.heap.objs.size := by simpa using hb
      subst e
      exact I1.fpOk (Nat.le_refl _) (I1.hok.fresh (Nat.le_refl _))
    cases z : (asT w).isSome with
    | false =>
      obtain ⟨xs, hq, hlen⟩ := h1 z
      obtain ⟨its, rv, p, hz⟩ := I1.list hq
      exact wpAny_pyIter_list p.isList ⟨s1.heap.objs.size, [s1.heap.objs.size], _, _, H1, rfl, I1.kept (t' := s1.toks) fun b o e => Heap.get?_push_of_some _ e, turn_list a _, ⟨_, Heap.get?_push_size _ rfl, rfl, rfl⟩, fp, h3 z (by rw [← hlen]; exact hz)⟩
    | true =>
      obtain ⟨xs, hq, hlen⟩ := h2 z
      obtain ⟨its, rv, p, hz⟩ := I1.tuple hq
      exact wpAny_pyIter_tuple (show s1.heap.IsTuple a its.toArray from p) ⟨s1.heap.objs.size, [s1.heap.objs.size], _, _, H1, rfl, I1.kept (t' := s1.toks) fun b o e => Heap.get?_push_of_some _ e, turn_tuple a _, ⟨_, Heap.get?_push_size _ rfl, rfl, rfl⟩, fp, h4 z (by rw [← hlen]; exact hz)⟩
theorem rng_small {a b : Int} (h : RngOk a b) : (rngD a b).length ≤ sizeLine := by
  unfold rngD
  rw [List.length_map, List.length_range, sizeLine_eq]
  exact h.2.2.2.2
theorem rows_rng {K : PySem.W.Frag} {a b : Int} {r0 : List Addr} {H0 : Hp} : Rows K (Itr a (b - a).toNat) (rngD a b) [] r0 H0 := by
  intro r H M st m _
  have hl : (rngD a b).length = (b - a).toNat := by unfold rngD; rw [List.length_map, List.length_range]
  refine ⟨Nat.le_of_eq hl.symm, fun i d hd => ?_⟩
  have hi : i < (b - a).toNat := by rw [← hl]; exact (List.getElem?_eq_some_iff.mp hd).1
  refine ⟨hi, fun x H' hy => ?_⟩
  obtain ⟨rfl, rfl⟩ := hy
  have : d = .int (a + (i : Nat)) := by
    unfold rngD at hd
    rw [List.getElem?_map, List.getElem?_range hi] at hd
    exact (Option.some.inj hd).symm
  subst this
  exact ⟨.refl, m, .int _⟩
theorem i_rng1 {tg : Expr} {a : E} {pa : Expr} {x : Str} {p : Pos} (F : Fit T C X) (hp : plainE pa = true) (hx : T.bi "range" x = true) (ha : PE X pa (tE X.K C a)) : PI X tg (.Call (.Name x p) [pa] [] pos) (tI X.K C (.rng1 a)) := by
  obtain ⟨rfl, hg, hm⟩ := F.bi hx
  refine ⟨fun pins s σ H R I h => (pi_range1 hg hm (pa_cons ha pa_nil (plain_star hp)) (by rw [plain_star hp]; rfl)).run pins s σ H R I ?_⟩
  obtain ⟨s0, M, r, l, ss, M', hs, hm, e, hk, q⟩ := h
  simp only [evI] at e
  obtain ⟨w, M1, e1, ea⟩ := bind_ok e
  obtain ⟨e2, rfl⟩ := opt_ok ea
  obtain ⟨i, e3, e4⟩ := Option.bind_eq_some_iff.mp e2
  split at e4
  · rename_i c
    cases e4
    refine ⟨s0, M, r, w, M', hs, hm, e1, fun r1 H1 v1 st1 m1 w1 => ⟨i, by rw [toI_rep e3 w1], c.2.2.1, c.2.2.2.1, ?_⟩⟩
    have z := q r1 H1 (Itr 0 (i - 0).toNat) st1 m1 rows_rng (rng_small c)
    rw [Int.sub_zero] at z
    exact z
  · cases e4
theorem i_rng2 {tg : Expr} {a b : E} {pa pb : Expr} {x : Str} {p : Pos} (F : Fit T C X) (hp : plainE pa = true) (hq : plainE pb = true) (hx : T.bi "range" x = true) (ha : PE X pa (tE X.K C a)) (hb : PE X pb (tE X.K C b)) : PI X tg (.Call (.Name x p) [pa, pb] [] pos) (tI X.K C (.rng2 a b)) := by
  obtain ⟨rfl, hg, hm⟩ := F.bi hx
  refine ⟨fun pins s σ H R I h => (pi_range2 hg hm (pa_cons ha (pa_cons hb pa_nil (plain_star hq)) (plain_star hp)) (by rw [plain_star hp, plain_star hq]; rfl) (by rw [plain_star hq]; rfl)).run pins s σ H R I ?_⟩
  obtain ⟨s0, M, r, l, ss, M', hs, hm, e, hk, q⟩ := h
  simp only [evI] at e
  obtain ⟨w, M1, e1, ea⟩ := bind_ok e
  obtain ⟨w2, M2, e2, eb⟩ := bind_ok ea
  obtain ⟨e3, rfl⟩ := opt_ok eb
  obtain ⟨i, e4, e5⟩ := Option.bind_eq_some_iff.mp e3
  obtain ⟨j, e6, e7⟩ := Option.bind_eq_some_iff.mp e5
  split at e7
  · rename_i c
    cases e7
    refine ⟨s0, M, r, w, M1, hs, hm, e1, fun r1 H1 v1 st1 m1 w1 => ⟨s0, M1, r1, w2, M', hs.gr (st1.gr hm), m1, e2, fun r2 H2 v2 st2 m2 w2 => ⟨i, j, by rw [toI_rep e4 w1, toI_rep e6 w2], ⟨c.1, c.2.1, c.2.2.1, c.2.2.2.1⟩, ?_⟩⟩⟩
    exact q r2 H2 (Itr i (j - i).toNat) (st1.trans st2) m2 rows_rng (rng_small c)
  · cases e7
theorem evI_src {i : I} {s : Ev.Env} {M M' : Mem} {l : List D} {ss : List (Nat × O)} (e : evI C i s M = .ok (l, ss) M') : SrcOk ss M' := by
  cases i with
  | val a =>
    simp only [evI] at e
    obtain ⟨w, M1, e1, ea⟩ := bind_ok e
    obtain ⟨e2, rfl⟩ := opt_ok ea
    obtain ⟨l', e3, e4⟩ := Option.map_eq_some_iff.mp e2
    cases e4
    exact srcs_ok
  | rng1 a =>
    simp only [evI] at e
    obtain ⟨w, M1, e1, ea⟩ := bind_ok e
    obtain ⟨e2, rfl⟩ := opt_ok ea
    obtain ⟨i, e3, e4⟩ := Option.bind_eq_some_iff.mp e2
    split at e4
    · cases e4; intro p hp; cases hp
    · cases e4
  | rng2 a b =>
    simp only [evI] at e
    obtain ⟨w, M1, e1, ea⟩ := bind_ok e
    obtain ⟨w2, M2, e2, eb⟩ := bind_ok ea
    obtain ⟨e3, rfl⟩ := opt_ok eb
    obtain ⟨i, e4, e5⟩ := Option.bind_eq_some_iff.mp e3
    obtain ⟨j, e6, e7⟩ := Option.bind_eq_some_iff.mp e5
    split at e7
    · cases e7; intro p hp; cases hp
    · cases e7
  | enum a =>
    simp only [evI] at e
    obtain ⟨w, M1, e1, ea⟩ := bind_ok e
    obtain ⟨e2, rfl⟩ := opt_ok ea
    obtain ⟨l', e3, e4⟩ := Option.map_eq_some_iff.mp e2
    cases e4
    exact srcs_ok
  | zip2 a b =>
    simp only [evI] at e
    obtain ⟨w, M1, e1, ea⟩ := bind_ok e
    obtain ⟨w2, M2, e2, eb⟩ := bind_ok ea
    obtain ⟨e3, rfl⟩ := opt_ok eb
    obtain ⟨i, e4, e5⟩ := Option.bind_eq_some_iff.mp e3
    obtain ⟨j, e6, e7⟩ := Option.map_eq_some_iff.mp e5
    cases e7
    exact srcs_ok.both srcs_ok
  | zip3 a b c =>
    simp only [evI] at e
    obtain ⟨w, M1, e1, ea⟩ := bind_ok e
    obtain ⟨w2, M2, e2, eb⟩ := bind_ok ea
    obtain ⟨w3, M3, e3, ec⟩ := bind_ok eb
    obtain ⟨e4, rfl⟩ := opt_ok ec
    obtain ⟨i, e5, e6⟩ := Option.bind_eq_some_iff.mp e4
    obtain ⟨j, e7, e8⟩ := Option.bind_eq_some_iff.mp e6
    obtain ⟨k, e9, e10⟩ := Option.map_eq_some_iff.mp e8
    cases e10
    exact (srcs_ok.both srcs_ok).both srcs_ok
  | enz a b =>
    simp only [evI] at e
    obtain ⟨w, M1, e1, ea⟩ := bind_ok e
    obtain ⟨w2, M2, e2, eb⟩ := bind_ok ea
    obtain ⟨e3, rfl⟩ := opt_ok eb
    obtain ⟨i, e4, e5⟩ := Option.bind_eq_some_iff.mp e3
    obtain ⟨j, e6, e7⟩ := Option.map_eq_some_iff.mp e5
    cases e7
    exact srcs_ok.both srcs_ok
end
end Ev

/-! EvB10: enumerate, zip; targets; list comprehensions. -/
namespace Ev
open PySem PySem.Spec PyProof.Rows L2
theorem enumD_len : ∀ (k : Nat) (l : List D), (enumD k l).length = l.length
  | _, [] => rfl
  | k, _ :: r => by rw [enumD, List.length_cons, List.length_cons, enumD_len (k + 1) r]
theorem enumD_get : ∀ {k : Nat} {l : List D} {i : Nat} {d : D}, (enumD k l)[i]? = some d → ∃ d', l[i]? = some d' ∧ d = .tup [.int ((k + i : Nat) : Int), d']
  | _, [], i, d, h => by simp [enumD] at h
  | k, x :: r, 0, d, h => by
    rw [enumD, List.getElem?_cons_zero] at h
    cases h
    exact ⟨x, rfl, rfl⟩
  | k, x :: r, i + 1, d, h => by
    rw [enumD, List.getElem?_cons_succ] at h
    obtain ⟨d', h1, h2⟩ := enumD_get h
    exact ⟨d', by simpa using h1, by rw [h2]; congr 4; omega⟩
theorem zipD_len : ∀ (l r : List D), (zipD l r).length = min l.length r.length
  | [], r => by cases r <;> simp [zipD]
  | _ :: l, [] => by simp [zipD]
  | _ :: l, _ :: r => by rw [zipD, List.length_cons, List.length_cons, List.length_cons, zipD_len l r]; omega
theorem zipD_get : ∀ {l r : List D} {i : Nat} {d : D}, (zipD l r)[i]? = some d → ∃ a b, l[i]? = some a ∧ r[i]? = some b ∧ d = .tup [a, b]
  | [], r, i, d, h => by cases r <;> simp [zipD] at h
  | _ :: l, [], i, d, h => by simp [zipD] at h
  | x :: l, y :: r, 0, d, h => by
    rw [zipD, List.getElem?_cons_zero] at h
    cases h
    exact ⟨x, y, rfl, rfl, rfl⟩
  | x :: l, y :: r, i + 1, d, h => by
    rw [zipD, List.getElem?_cons_succ] at h
    obtain ⟨a, b, h1, h2, h3⟩ := zipD_get h
    exact ⟨a, b, by simpa using h1, by simpa using h2, h3⟩
section
variable {T : Nm} {C : Cl} {X : Cx} {pos : Pos}
theorem yld_tup {K : PySem.W.Frag} {r : List Addr} {H : Hp} {M : Mem} {Tt : Addr} {o : Obj} {l : List D} {vs : List V} (m : RM K r H M) (hT : H Tt = none) (hd : o.dict = none) (rds : RDs K r H l vs) :
    Stp r H r (upd H Tt (.frz o (.tup vs))) ∧ RM K r (upd H Tt (.frz o (.tup vs))) M ∧ RD K r (upd H Tt (.frz o (.tup vs))) (.tup l) (.ref Tt) :=
  ⟨.fresh hT, m.fresh hT, .tup ⟨o, upd_same, hd⟩ (rds.gr ((Stp.fresh hT).gr m))⟩
theorem i_enum {e : E} {pe : Expr} {x : Str} {p tpos : Pos} {elts : List Expr} {kk : Nat} (F : Fit T C X) (hp : plainE pe = true) (hx : T.bi "enumerate" x = true) (he : PE X pe (tE X.K C e)) : PI X (.Tuple elts kk tpos) (.Call (.Name x p) [pe] [] pos) (tI X.K C (.enum e)) := by
  obtain ⟨rfl, hg, hm⟩ := F.bi hx
  refine ⟨fun pins s σ H R I h => ?_⟩
  obtain ⟨s0, M, r, l, ss, M', hs, hm0, e, hk, q⟩ := h
  simp only [evI] at e
  obtain ⟨w, M1, e1, ea⟩ := bind_ok e
  obtain ⟨e2, rfl⟩ := opt_ok ea
  obtain ⟨l', e3, e4⟩ := Option.map_eq_some_iff.mp e2
  cases e4
  generalize hb : (asT w).isSome = b
  refine Call_ (ld_blt I hg hm boot_enumerate (PyProof.Rows.callWith_type1 (thn ((pa_cons he pa_nil (plain_star hp)).run pos pins s σ H (fun vs H1 => ∃ a, vs = [.ref a] ∧ (∃ xs, SqB b X.K H1 a xs ∧ xs.length = l'.length) ∧ (l'.length ≤ sizeLine → R (Je b X.K a) H1)) I ⟨s0, M, r, w, M', hs, hm0, e1, fun r1 H1 v1 st1 m1 w1 => ?_⟩) fun us s1 ⟨vs, H1, I1, r1, q1⟩ => ?_) (plain_star hp) rfl))
  · obtain ⟨a, rfl, h1, st⟩ := row_stays m1 w1 e3
    rw [hb] at h1 st
    refine ⟨a, rfl, h1, fun hz => q r1 H1 _ st1 m1 ?_ (by rw [enumD_len]; exact hz)⟩
    intro r2 H2 M2 st2 m2 k2
    obtain ⟨vs2, h2, rds⟩ := st r2 H2 M2 st2 m2 k2
    refine ⟨⟨vs2, h2, by rw [enumD_len, rds.length]⟩, fun i d hd => ?_⟩
    obtain ⟨d', h3, rfl⟩ := enumD_get hd
    obtain ⟨v, h4, h5⟩ := rds.get h3
    refine ⟨⟨vs2, v, h2, h4⟩, fun x H' hy => ?_⟩
    obtain ⟨Tt, x, o, rfl, hT, hd', rfl, hy⟩ := hy
    have hx := hy vs2 h2
    rw [h4] at hx
    cases hx
    rw [Nat.zero_add]
    exact yld_tup m2 hT hd' (.cons (.int _) (.cons h5 .nil))
  · obtain ⟨a, rfl, ⟨xs, hq, hlen⟩, q1⟩ := q1
    cases r1 with
    | cons r rr =>
      cases rr
      cases r
      obtain ⟨its, rv, sr, hz⟩ := inv_sq I1 hq
      have la := sr.lt
      refine enum_call1 (beginsB b a its.toArray) sr fun h' he hit hk => wpAny_pyIter_enum he ?_
      have I2 : Inv X pins σ H1 { s1 with heap := h' } := I1.kept (t' := s1.toks) hk
      refine ⟨s1.heap.objs.size + 1, [s1.heap.objs.size + 1, s1.heap.objs.size], _, _, H1, rfl, I2, turn_e b a (s1.heap.objs.size + 1) s1.heap.objs.size (Nat.succ_ne_self _) (Nat.ne_of_gt (Nat.lt_succ_of_lt la)) (Nat.ne_of_lt la), ⟨⟨.none, he⟩, ItB.ofOb hit⟩, fun c hc => ?_, q1 (by rw [← hlen]; exact hz)⟩
      have e' : c = s1.heap.objs.size + 1 ∨ c = s1.heap.objs.size := by simpa using hc
      have hle : s1.heap.objs.size ≤ c := by
        rcases e' with z | z
        · rw [z]; exact Nat.le_succ _
        · rw [z]; exact Nat.le_refl _
      exact I1.fpOk hle (I1.hok.fresh hle)
theorem i_zip2 {e f : E} {pe pf : Expr} {x : Str} {p tpos : Pos} {elts : List Expr} {kk : Nat} (F : Fit T C X) (hp : plainE pe = true) (hp2 : plainE pf = true) (hx : T.bi "zip" x = true) (he : PE X pe (tE X.K C e)) (hf : PE X pf (tE X.K C f)) :
    PI X (.Tuple elts kk tpos) (.Call (.Name x p) [pe, pf] [] pos) (tI X.K C (.zip2 e f)) := by
  obtain ⟨rfl, hg, hm⟩ := F.bi hx
  refine ⟨fun pins s σ H R I h => ?_⟩
  obtain ⟨s0, M, r, l, ss, M', hs, hm0, e, hk, q⟩ := h
  simp only [evI] at e
  obtain ⟨w1, M1, e1, ea⟩ := bind_ok e
  obtain ⟨w2, M2, e2, eb⟩ := bind_ok ea
  obtain ⟨e3, rfl⟩ := opt_ok eb
  obtain ⟨l1, e4, e5⟩ := Option.bind_eq_some_iff.mp e3
  obtain ⟨l2, e6, e7⟩ := Option.map_eq_some_iff.mp e5
  cases e7
  generalize hb1 : (asT w1).isSome = b1
  generalize hb2 : (asT w2).isSome = b2
  refine Call_ (ld_blt I hg hm PyProof.Rows.boot_zip (PyProof.Rows.callWith_type1 (thn ((pa_cons he (pa_cons hf pa_nil (plain_star hp2)) (plain_star hp)).run pos pins s σ H (fun vs H1 => ∃ a a2, vs = [.ref a, .ref a2] ∧ (∃ xs, SqB b1 X.K H1 a xs ∧ xs.length = l1.length) ∧ (∃ xs, SqB b2 X.K H1 a2 xs ∧ xs.length = l2.length) ∧ (l1.length ≤ sizeLine → R (Jz b1 b2 X.K a a2) H1)) I ⟨s0, M, r, w1, M1, hs, hm0, e1, fun r1 H1 v1 st1 m1 rw1 => ⟨s0, M1, r1, w2, M', hs.gr (st1.gr hm0), m1, e2, fun r2 H2 v2 st2 m2 rw2 => ?_⟩⟩) fun us s1 ⟨vs, H1, I1, r1, q1⟩ => ?_) (plain_star hp) (plain_any (by rw [List.all_cons, hp2]; rfl))))
  · obtain ⟨a, rfl, h1, sta⟩ := row_stays m2 (rw1.stp m1 st2) e4
    obtain ⟨a2, rfl, h2, stb⟩ := row_stays m2 rw2 e6
    rw [hb1] at h1 sta
    rw [hb2] at h2 stb
    refine ⟨a, a2, rfl, h1, h2, fun hz => q r2 H2 _ (st1.trans st2) m2 ?_ (by rw [zipD_len]; exact Nat.le_trans (Nat.min_le_left _ _) hz)⟩
    intro r3 H3 M3 st3 m3 k3
    obtain ⟨vs3, h3, rds⟩ := sta r3 H3 M3 st3 m3 k3.left
    obtain ⟨us3, h4, rds2⟩ := stb r3 H3 M3 st3 m3 k3.right
    refine ⟨⟨vs3, us3, h3, h4, by rw [zipD_len, rds.length, rds2.length]⟩, fun i d hd => ?_⟩
    obtain ⟨d1, d2, g1, g2, rfl⟩ := zipD_get hd
    obtain ⟨v, g3, g4⟩ := rds.get g1
    obtain ⟨v', g5, g6⟩ := rds2.get g2
    refine ⟨⟨vs3, us3, v, v', h3, h4, g3, g5⟩, fun x H' hy => ?_⟩
    obtain ⟨Tt, x, y, o, rfl, hT, hd', rfl, hy, hy2⟩ := hy
    have hx := hy vs3 h3
    have hx2 := hy2 us3 h4
    rw [g3] at hx
    rw [g5] at hx2
    cases hx
    cases hx2
    exact yld_tup m3 hT hd' (.cons g4 (.cons g6 .nil))
  · obtain ⟨a, a2, rfl, ⟨xs, hq, hlen⟩, ⟨ys, hq2, _⟩, q1⟩ := q1
    cases r1 with
    | cons r rr =>
      cases rr with
      | cons r' rr =>
        cases rr
        cases r
        cases r'
        obtain ⟨its, rv, sr, hz⟩ := inv_sq I1 hq
        obtain ⟨its2, rv2, sr2, hz2⟩ := inv_sq I1 hq2
        refine zip_begins2 (beginsB b1 a its.toArray) (beginsB b2 a2 its2.toArray) sr sr2 fun h' hzz hTI hTO h1 h2 hsz hk => wpAny_pyIter_zip hzz ?_
        have I2 : Inv X pins σ H1 { s1 with heap := h' } := I1.kept (t' := s1.toks) hk
        refine ⟨s1.heap.objs.size + 4, [s1.heap.objs.size + 4, s1.heap.objs.size + 2, s1.heap.objs.size + 3, s1.heap.objs.size, s1.heap.objs.size + 1], _, _, H1, rfl, I2, turn_z b1 b2 _ _ _ _ _ a a2 (ap2 sr.lt sr2.lt), ⟨hzz, hTI, ⟨_, _, hTO⟩, ItB.ofOb h1, ItB.ofOb h2⟩, fun c hcm => ?_, q1 (by rw [← hlen]; exact hz)⟩
        have e' : c = s1.heap.objs.size + 4 ∨ c = s1.heap.objs.size + 2 ∨ c = s1.heap.objs.size + 3 ∨ c = s1.heap.objs.size ∨ c = s1.heap.objs.size + 1 := by simpa using hcm
        have hle : s1.heap.objs.size ≤ c := by
          rcases e' with z | z | z | z | z
          · rw [z]; exact Nat.le_add_right _ _
          · rw [z]; exact Nat.le_add_right _ _
          · rw [z]; exact Nat.le_add_right _ _
          · rw [z]; exact Nat.le_refl _
          · rw [z]; exact Nat.le_add_right _ _
        exact I1.fpOk hle (I1.hok.fresh hle)
end
end Ev

/-! EvBz: enumerate(zip(row, row)). -/
namespace Ev
open PySem PySem.Spec PyProof.Rows L2
abbrev ZipR (h : Heap) (z TI TO : Addr) (f0 : Value) (b : Bool) : Prop :=
  h.get? z = some { cls := .type "zip", dict := none, data := .fields #[f0, .bool b, .bool false, .ref TI, .ref TO], slots := #[] }
def ZipA (h : Heap) (z TI TO : Addr) : Prop := ∃ f0 b, ZipR h z TI TO f0 b ∧ (f0 = .none ∨ ∃ T : Addr, f0 = rawInt T)
section
variable {prog : Program} {w : World} {A : Around} {E : Value → Shared → Prop} {s : Shared} {z TI TO i1 i2 : Addr} {fp1 fp2 : List Addr} {n1 n2 i : Nat} {P1 P2 : Nat → Value → Prop} {St1 St2 : Nat → Heap → Prop} {a1 a2 : Value}
theorem alive_any {a : Addr} {Q : Option Obj → Shared → Prop} (h : Q (s.heap.get? a) s) : wpAny (model prog w) A (loadIfAlive a) Q E s := fun _ _ _ => h
theorem zip_free {f0 : Value} {b : Bool} {Q : Bool → Shared → Prop} (hz : ZipR s.heap z TI TO f0 b) (hf : f0 = .none ∨ ∃ T : Addr, f0 = rawInt T) (h1 : Q true s)
    (h2 : ∀ h' b', ZipR h' z TI TO f0 b' → Heap.SameBut z s.heap h' → Q false { s with heap := h' }) : wpAny (model prog w) A (Builtin.SmallTypes.ownedTupleIsFree (.ref z)) Q E s := by
  unfold Builtin.SmallTypes.ownedTupleIsFree
  rcases hf with rfl | ⟨T, rfl⟩
  · exact wpAny_bind (wpAny_field hz rfl (x := .none) rfl (wpAny_pure h1))
  · refine wpAny_bind (wpAny_field hz rfl (x := rawInt T) rfl ?_)
    show wpAny _ _ (loadIfAlive ((T : Int).toNat) >>= _) _ _ _
    rw [Int.toNat_natCast]
    refine wpAny_bind (alive_any ?_)
    cases hT : s.heap.get? T with
    | none => 
      simp only [Option.isNone_none, if_true]
      exact wpAny_pure h1
    | some oT =>
      simp only [Option.isNone_some, Bool.false_eq_true, if_false]
      refine wpAny_bind (wpAny_field hz rfl (x := .bool b) rfl ?_)
      cases b with
      | true =>
        rw [if_neg (show ¬ ((Value.bool true != Value.bool true) = true) from Bool.false_ne_true)]
        exact wpAny_pure (h2 s.heap true hz (Heap.SameBut.refl _ _))
      | false =>
        rw [if_pos (show (Value.bool false != Value.bool true) = true from rfl)]
        exact wpAny_bind (wpAny_setField_rec hz (by simp) fun h₁ hz₁ hs₁ => wpAny_pure (h2 h₁ true hz₁ hs₁))
theorem zipA_next_item {Q : Value → Shared → Prop} (S : ZipSep2 z TI TO i1 i2 fp1 fp2) (D1 : Draws prog w A i1 fp1 n1 P1 St1) (D2 : Draws prog w A i2 fp2 n2 P2 St2)
    (hz : ZipA s.heap z TI TO) (hTI : IsTupOf2 s.heap TI (.ref i1) (.ref i2)) (hTO : IsTupOf2 s.heap TO a1 a2) (st1 : St1 i s.heap) (st2 : St2 i s.heap) (hlt1 : i < n1) (hlt2 : i < n2)
    (hQ : ∀ x1 x2 h' tk, P1 i x1 → P2 i x2 → ZipA h' z TI TO → (∃ b1 b2, IsTupOf2 h' TO b1 b2) → St1 (i + 1) h' → St2 (i + 1) h' → IsTupOf2 h' s.heap.objs.size x1 x2 → h'.objs.size = s.heap.objs.size + 1 →
      (∀ c o, c ≠ z → c ≠ TO → c ≠ i1 → c ≠ i2 → s.heap.get? c = some o → h'.get? c = some o) → Q (.ref s.heap.objs.size) { s with heap := h', toks := tk }) :
    wpAny (model prog w) A (Builtin.«zip.__next__» ⟨[.ref z], []⟩) (fun fin s' => ∃ v, fin = .done (.ret v) ∧ Q v s') E s := by
  obtain ⟨hp, g, d, tk0, os⟩ := s
  obtain ⟨f0, b, hz, hf⟩ := hz
  show wpAny _ _ (field (.ref z) 2 >>= _) _ _ _
  refine wpAny_bind (wpAny_field hz rfl (x := .bool false) rfl ?_)
  show wpAny _ _ (field (.ref z) 3 >>= _) _ _ _
  refine wpAny_bind (wpAny_field hz rfl (x := .ref TI) rfl ?_)
  refine wpAny_bind (wpAny_seqItems hTI rfl ?_)
  show wpAny _ _ (Builtin.SmallTypes.ownedTupleIsFree (.ref z) >>= _) _ _ _
  refine wpAny_bind (zip_free hz hf ?_ ?_)
  · simp only [if_true]
    refine wpAny_bind (wpAny_rule ?_)
    refine wpAny_bind (wpAny_field hz rfl (x := .ref TO) rfl ?_)
    refine wpAny_bind (wpAny_setField_rec hz (by simp) fun g0 hz0 hs0 => ?_)
    replace hz0 : ZipR g0 z TI TO .ellipsis b := hz0
    replace hs0 : Heap.SameBut z hp g0 := hs0
    refine wpAny_bind ?_
    simp only [List.zipIdx_cons, List.zipIdx_nil, List.forIn_cons, List.forIn_nil]
    refine wpAny_bind (wpAny_bind (wpAny_onRaise ?_))
    show wpAny _ _ (Builtin.SmallTypes.nextOf (.ref i1) >>= _) _ _ ⟨g0, g, d, tk0, os⟩
    refine wpAny_bind (D1.item i _ _ _ hlt1 (D1.over st1 hs0 S.zf1) fun x1 p1 tk1 hx1 sn1 hp1 => wpAny_pure ?_)
    replace hp1 : Heap.SameBut i1 g0 p1 := hp1
    have hU1 : IsTupOf2 p1 TO a1 a2 := hp1.extBut _ _ S.Ti1 (hs0.extBut _ _ S.TOz hTO)
    refine wpAny_bind (wpAny_seqItems (s := ⟨p1, g, d, tk1, os⟩) hU1 rfl ?_)
    refine wpAny_bind (updateSeq_IsTupOf2 (s := ⟨p1, g, d, tk1, os⟩) hU1 fun g1 hT1 hs1 => ?_)
    replace hT1 : IsTupOf2 g1 TO x1 a2 := hT1
    replace hs1 : Heap.SameBut TO p1 g1 := hs1
    refine wpAny_bind (wpAny_letGo (wpAny_pure ?_))
    refine wpAny_bind (wpAny_bind (wpAny_onRaise ?_))
    show wpAny _ _ (Builtin.SmallTypes.nextOf (.ref i2) >>= _) _ _ ⟨g1, g, d, tk1, os⟩
    refine wpAny_bind (D2.item i _ _ _ hlt2 (D2.over (D2.over (D2.over st2 hs0 S.zf2) hp1 S.sep1_2) hs1 S.Tf2) fun x2 p2 tk2 hx2 sn2 hp2 => wpAny_pure ?_)
    replace hp2 : Heap.SameBut i2 g1 p2 := hp2
    have hU2 : IsTupOf2 p2 TO x1 a2 := hp2.extBut _ _ S.Ti2 hT1
    refine wpAny_bind (wpAny_seqItems (s := ⟨p2, g, d, tk2, os⟩) hU2 rfl ?_)
    refine wpAny_bind (updateSeq_IsTupOf2 (s := ⟨p2, g, d, tk2, os⟩) hU2 fun g2 hT2 hs2 => ?_)
    replace hT2 : IsTupOf2 g2 TO x1 x2 := hT2
    replace hs2 : Heap.SameBut TO p2 g2 := hs2
    refine wpAny_bind (wpAny_letGo (wpAny_pure (wpAny_pure ?_)))
    refine wpAny_bind (wpAny_seqItems (s := ⟨g2, g, d, tk2, os⟩) hT2 rfl ?_)
    refine wpAny_bind (wpAny_newTuple ?_)
    have hsz : g2.objs.size = hp.objs.size := by rw [hs2.1, hp2.1, hs1.1, hp1.1, hs0.1]
    have hzz : ZipR g2 z TI TO .ellipsis b := (hs2.extBut _ _ S.TOz.symm (hp2.extBut _ _ S.zi2 (hs1.extBut _ _ S.TOz.symm (hp1.extBut _ _ S.zi1 hz0))))
    have hkk : ∀ c o, c ≠ z → c ≠ TO → c ≠ i1 → c ≠ i2 → hp.get? c = some o → g2.get? c = some o := fun c o cz cT c1 c2 e =>
      (hs2.extBut _ _ cT (hp2.extBut _ _ c2 (hs1.extBut _ _ cT (hp1.extBut _ _ c1 (hs0.extBut _ _ cz e)))))
    have hj1 : St1 (i + 1) g2 := (D1.over (D1.over (D1.over sn1 hs1 S.Tf1) hp2 S.sep2_1) hs2 S.Tf1)
    have hj2 : St2 (i + 1) g2 := (D2.over sn2 hs2 S.Tf2)
    have hzlt : z < g2.objs.size := Heap.lt_size hzz
    show wpAny _ _ (Builtin.SmallTypes.ownedTupleHandOut (.ref z) (.ref g2.objs.size) >>= _) _ _ ⟨g2.push { cls := .type "tuple", data := .seq #[x1, x2] }, g, d, tk2, os⟩
    refine wpAny_bind ?_
    unfold Builtin.SmallTypes.ownedTupleHandOut
    have hz₆ : ZipR (g2.push { cls := .type "tuple", data := .seq #[x1, x2] }) z TI TO .ellipsis b := Heap.get?_push_of_some _ hzz
    refine wpAny_bind (wpAny_setField_rec hz₆ (by simp) fun h₇ hz₇ hs₇ => ?_)
    replace hz₇ : ZipR h₇ z TI TO (rawInt g2.objs.size) b := hz₇
    refine wpAny_setField_rec hz₇ (by simp) fun h₈ hz₈ hs₈ => ?_
    replace hz₈ : ZipR h₈ z TI TO (rawInt g2.objs.size) false := hz₈
    replace hs₇ : Heap.SameBut z (g2.push { cls := .type "tuple", data := .seq #[x1, x2] }) h₇ := hs₇
    replace hs₈ : Heap.SameBut z h₇ h₈ := hs₈
    have up : ∀ c o, c ≠ z → g2.get? c = some o → h₈.get? c = some o := fun c o c1 e => hs₈.extBut _ _ c1 (hs₇.extBut _ _ c1 (Heap.get?_push_of_some _ e))
    have hT₈ : IsTupOf2 h₈ g2.objs.size x1 x2 := hs₈.extBut _ _ (Nat.ne_of_gt hzlt) (hs₇.extBut _ _ (Nat.ne_of_gt hzlt) (Heap.get?_push_size _ rfl))
    have hz8 : h₈.objs.size = g2.objs.size + 1 := by rw [hs₈.1, hs₇.1, Heap.size_push]
    rw [hsz] at hz₈ hT₈ hz8
    refine wpAny_pure ⟨_, rfl, ?_⟩
    show Q (.ref g2.objs.size) ⟨h₈, g, d, tk2, os⟩
    rw [hsz]
    exact hQ x1 x2 h₈ tk2 hx1 hx2 ⟨_, _, hz₈, .inr ⟨_, rfl⟩⟩ ⟨_, _, up _ _ S.TOz hT2⟩ (D1.frame _ _ _ hj1 fun b hb o e => up b o (fun q => S.zf1 (q ▸ hb)) e) (D2.frame _ _ _ hj2 fun b hb o e => up b o (fun q => S.zf2 (q ▸ hb)) e) hT₈ hz8 fun c o cz cT c1 c2 e => up c o cz (hkk c o cz cT c1 c2 e)
  · intro h₁ b' hz₁ hs₁
    replace hs₁ : Heap.SameBut z hp h₁ := hs₁
    simp only [Bool.false_eq_true, if_false]
    refine wpAny_bind ?_
    rw [← Array.forIn_toList]
    simp only [List.forIn_cons, List.forIn_nil]
    refine wpAny_bind (wpAny_bind (wpAny_holding ?_))
    show wpAny _ _ (Builtin.SmallTypes.nextOf (.ref i1) >>= _) _ _ ⟨h₁, g, d, tk0, os⟩
    refine wpAny_bind (D1.item i _ _ _ hlt1 (D1.over st1 hs₁ S.zf1) fun x1 p1 tk1 hx1 sn1 hp1 => wpAny_pure ?_)
    replace hp1 : Heap.SameBut i1 h₁ p1 := hp1
    refine wpAny_pure ?_
    refine wpAny_bind (wpAny_bind (wpAny_holding ?_))
    show wpAny _ _ (Builtin.SmallTypes.nextOf (.ref i2) >>= _) _ _ ⟨p1, g, d, tk1, os⟩
    refine wpAny_bind (D2.item i _ _ _ hlt2 (D2.over (D2.over st2 hs₁ S.zf2) hp1 S.sep1_2) fun x2 p2 tk2 hx2 sn2 hp2 => wpAny_pure ?_)
    replace hp2 : Heap.SameBut i2 p1 p2 := hp2
    refine wpAny_pure (wpAny_pure ?_)
    show wpAny _ _ (newTuple [x1, x2] >>= _) _ _ _
    refine wpAny_bind (wpAny_newTuple ?_)
    have hsz : p2.objs.size = hp.objs.size := by rw [hp2.1, hp1.1, hs₁.1]
    have hz₃ : ZipR p2 z TI TO f0 b' := hp2.extBut _ _ S.zi2 (hp1.extBut _ _ S.zi1 hz₁)
    have hk : ∀ c o, c ≠ z → c ≠ TO → c ≠ i1 → c ≠ i2 → hp.get? c = some o → p2.get? c = some o := fun c o c1 _ c2 c3 e => hp2.extBut _ _ c3 (hp1.extBut _ _ c2 (hs₁.extBut _ _ c1 e))
    have hU : IsTupOf2 p2 TO a1 a2 := hp2.extBut _ _ S.Ti2 (hp1.extBut _ _ S.Ti1 (hs₁.extBut _ _ S.TOz hTO))
    have hj1 : St1 (i + 1) p2 := D1.over sn1 hp2 S.sep2_1
    refine wpAny_pure ⟨_, rfl, ?_⟩
    show Q (.ref p2.objs.size) _
    have hpp : IsTupOf2 (p2.push { cls := .type "tuple", data := .seq #[x1, x2] }) p2.objs.size x1 x2 := Heap.get?_push_size _ rfl
    have hz4 : (p2.push { cls := .type "tuple", data := .seq #[x1, x2] }).objs.size = p2.objs.size + 1 := Heap.size_push ..
    rw [hsz] at hpp hz4 ⊢
    exact hQ x1 x2 _ tk2 hx1 hx2 ⟨f0, b', Heap.get?_push_of_some _ hz₃, hf⟩ ⟨_, _, Heap.get?_push_of_some _ hU⟩ (D1.frame _ _ _ hj1 fun b hb o e => Heap.get?_push_of_some _ e) (D2.frame _ _ _ sn2 fun b hb o e => Heap.get?_push_of_some _ e) hpp hz4 fun c o c1 c2 c3 c4 e => Heap.get?_push_of_some _ (hk c o c1 c2 c3 c4 e)
theorem zipA_next_end {Q : Fin → Shared → Prop} (S : ZipSep2 z TI TO i1 i2 fp1 fp2) (D1 : Draws prog w A i1 fp1 n1 P1 St1) (D2 : Draws prog w A i2 fp2 n2 P2 St2)
    (hz : ZipA s.heap z TI TO) (hTI : IsTupOf2 s.heap TI (.ref i1) (.ref i2)) (hTO : IsTupOf2 s.heap TO a1 a2) (st1 : St1 i s.heap) (st2 : St2 i s.heap) (hle1 : i ≤ n1) (hle2 : i ≤ n2) (hend : i = n1 ∨ i = n2)
    (hE : ∀ h' tk e, (∀ c o, c ≠ z → c ≠ TO → c ≠ i1 → c ≠ i2 → s.heap.get? c = some o → h'.get? c = some o) → (∃ o, h'.get? e = some o ∧ o.cls = .type "StopIteration") → E (.ref e) { s with heap := h', toks := tk }) :
    wpAny (model prog w) A (Builtin.«zip.__next__» ⟨[.ref z], []⟩) Q E s := by
  obtain ⟨hp, g, d, tk0, os⟩ := s
  obtain ⟨f0, b, hz, hf⟩ := hz
  show wpAny _ _ (field (.ref z) 2 >>= _) _ _ _
  refine wpAny_bind (wpAny_field hz rfl (x := .bool false) rfl ?_)
  show wpAny _ _ (field (.ref z) 3 >>= _) _ _ _
  refine wpAny_bind (wpAny_field hz rfl (x := .ref TI) rfl ?_)
  refine wpAny_bind (wpAny_seqItems hTI rfl ?_)
  show wpAny _ _ (Builtin.SmallTypes.ownedTupleIsFree (.ref z) >>= _) _ _ _
  refine wpAny_bind (zip_free hz hf ?_ ?_)
  · simp only [if_true]
    refine wpAny_bind (wpAny_rule ?_)
    refine wpAny_bind (wpAny_field hz rfl (x := .ref TO) rfl ?_)
    refine wpAny_bind (wpAny_setField_rec hz (by simp) fun g0 hz0 hs0 => ?_)
    replace hz0 : ZipR g0 z TI TO .ellipsis b := hz0
    replace hs0 : Heap.SameBut z hp g0 := hs0
    refine wpAny_bind ?_
    simp only [List.zipIdx_cons, List.zipIdx_nil, List.forIn_cons, List.forIn_nil]
    refine wpAny_bind (wpAny_bind (wpAny_onRaise ?_))
    show wpAny _ _ (Builtin.SmallTypes.nextOf (.ref i1) >>= _) _ _ ⟨g0, g, d, tk0, os⟩
    by_cases hlt1 : i < n1
    · refine wpAny_bind (D1.item i _ _ _ hlt1 (D1.over st1 hs0 S.zf1) fun x1 p1 tk1 hx1 sn1 hp1 => wpAny_pure ?_)
      replace hp1 : Heap.SameBut i1 g0 p1 := hp1
      have hU1 : IsTupOf2 p1 TO a1 a2 := hp1.extBut _ _ S.Ti1 (hs0.extBut _ _ S.TOz hTO)
      refine wpAny_bind (wpAny_seqItems (s := ⟨p1, g, d, tk1, os⟩) hU1 rfl ?_)
      refine wpAny_bind (updateSeq_IsTupOf2 (s := ⟨p1, g, d, tk1, os⟩) hU1 fun g1 hT1 hs1 => ?_)
      replace hT1 : IsTupOf2 g1 TO x1 a2 := hT1
      replace hs1 : Heap.SameBut TO p1 g1 := hs1
      refine wpAny_bind (wpAny_letGo (wpAny_pure ?_))
      have hi2 : i = n2 := by omega
      refine wpAny_bind (wpAny_bind (wpAny_onRaise ?_))
      show wpAny _ _ (Builtin.SmallTypes.nextOf (.ref i2) >>= _) _ _ ⟨g1, g, d, tk1, os⟩
      refine wpAny_bind (D2.done ⟨g1, g, d, tk1, os⟩ _ _ (by rw [← hi2]; exact (D2.over (D2.over (D2.over st2 hs0 S.zf2) hp1 S.sep1_2) hs1 S.Tf2)) fun q e hq he => ?_)
      replace hq : Heap.ExtBut i2 g1 q := hq
      obtain ⟨oe, hoe, hce⟩ := he
      replace hoe : q.get? e = some oe := hoe
      have hzq : ZipR q z TI TO .ellipsis b := hq _ _ S.zi2 (hs1.extBut _ _ S.TOz.symm (hp1.extBut _ _ S.zi1 hz0))
      have hez : e ≠ z := fun x => by subst x; rw [hzq] at hoe; cases hoe; simp at hce
      refine wpAny_setField_rec (s := ⟨q, g, d, tk1, os⟩) hzq (by simp) fun q' _ hq' => ?_
      replace hq' : Heap.SameBut z q q' := hq'
      exact hE q' tk1 e (fun c o cz cT c1 c2 x => hq'.extBut _ _ cz (hq _ _ c2 (hs1.extBut _ _ cT (hp1.extBut _ _ c1 (hs0.extBut _ _ cz x))))) ⟨oe, hq'.extBut _ _ hez hoe, hce⟩
    · have hi1 : i = n1 := by omega
      refine wpAny_bind (D1.done ⟨g0, g, d, tk0, os⟩ _ _ (by rw [← hi1]; exact (D1.over st1 hs0 S.zf1)) fun q e hq he => ?_)
      replace hq : Heap.ExtBut i1 g0 q := hq
      obtain ⟨oe, hoe, hce⟩ := he
      replace hoe : q.get? e = some oe := hoe
      have hzq : ZipR q z TI TO .ellipsis b := hq _ _ S.zi1 hz0
      have hez : e ≠ z := fun x => by subst x; rw [hzq] at hoe; cases hoe; simp at hce
      refine wpAny_setField_rec (s := ⟨q, g, d, tk0, os⟩) hzq (by simp) fun q' _ hq' => ?_
      replace hq' : Heap.SameBut z q q' := hq'
      exact hE q' tk0 e (fun c o cz cT c1 c2 x => hq'.extBut _ _ cz (hq _ _ c1 (hs0.extBut _ _ cz x))) ⟨oe, hq'.extBut _ _ hez hoe, hce⟩
  · intro h₁ b' hz₁ hs₁
    replace hs₁ : Heap.SameBut z hp h₁ := hs₁
    simp only [Bool.false_eq_true, if_false]
    refine wpAny_bind ?_
    rw [← Array.forIn_toList]
    simp only [List.forIn_cons, List.forIn_nil]
    refine wpAny_bind (wpAny_bind (wpAny_holding ?_))
    show wpAny _ _ (Builtin.SmallTypes.nextOf (.ref i1) >>= _) _ _ ⟨h₁, g, d, tk0, os⟩
    by_cases hlt1 : i < n1
    · refine wpAny_bind (D1.item i _ _ _ hlt1 (D1.over st1 hs₁ S.zf1) fun x1 p1 tk1 hx1 sn1 hp1 => wpAny_pure ?_)
      replace hp1 : Heap.SameBut i1 h₁ p1 := hp1
      have hi2 : i = n2 := by omega
      refine wpAny_pure ?_
      refine wpAny_bind (wpAny_bind (wpAny_holding ?_))
      show wpAny _ _ (Builtin.SmallTypes.nextOf (.ref i2) >>= _) _ _ ⟨p1, g, d, tk1, os⟩
      refine wpAny_bind (D2.done ⟨p1, g, d, tk1, os⟩ _ _ (by rw [← hi2]; exact D2.over (D2.over st2 hs₁ S.zf2) hp1 S.sep1_2) fun q e hq he => ?_)
      replace hq : Heap.ExtBut i2 p1 q := hq
      exact hE q tk1 e (fun c o cz cT c1 c2 x => hq _ _ c2 (hp1.extBut _ _ c1 (hs₁.extBut _ _ cz x))) he
    · have hi1 : i = n1 := by omega
      refine wpAny_bind (D1.done ⟨h₁, g, d, tk0, os⟩ _ _ (by rw [← hi1]; exact D1.over st1 hs₁ S.zf1) fun q e hq he => ?_)
      replace hq : Heap.ExtBut i1 h₁ q := hq
      exact hE q tk0 e (fun c o cz cT c1 c2 x => hq _ _ c1 (hs₁.extBut _ _ cz x)) he
theorem ZipA.typeIs (hz : ZipA s.heap z TI TO) : s.TypeIs (.ref z) "zip" := by
  obtain ⟨f0, b, h, _⟩ := hz
  exact ⟨_, h, rfl⟩
theorem zipA_nextOf_item {Q : Value → Shared → Prop} (S : ZipSep2 z TI TO i1 i2 fp1 fp2) (D1 : Draws prog w A.in1 i1 fp1 n1 P1 St1) (D2 : Draws prog w A.in1 i2 fp2 n2 P2 St2)
    (hz : ZipA s.heap z TI TO) (hTI : IsTupOf2 s.heap TI (.ref i1) (.ref i2)) (hTO : IsTupOf2 s.heap TO a1 a2) (st1 : St1 i s.heap) (st2 : St2 i s.heap) (hlt1 : i < n1) (hlt2 : i < n2)
    (hQ : ∀ x1 x2 h' tk, P1 i x1 → P2 i x2 → ZipA h' z TI TO → (∃ b1 b2, IsTupOf2 h' TO b1 b2) → St1 (i + 1) h' → St2 (i + 1) h' → IsTupOf2 h' s.heap.objs.size x1 x2 → h'.objs.size = s.heap.objs.size + 1 →
      (∀ c o, c ≠ z → c ≠ TO → c ≠ i1 → c ≠ i2 → s.heap.get? c = some o → h'.get? c = some o) → Q (.ref s.heap.objs.size) { s with heap := h', toks := tk }) :
    wpAny (model prog w) A (Builtin.SmallTypes.nextOf (.ref z)) Q E s := by
  unfold Builtin.SmallTypes.nextOf
  refine wpAny_bind (wpAny_callSpecial?_slot (name := Str.ofString "__next__") hz.typeIs F.slot_zip_next
    (wpAny_call_entry F.slot_zip_next hz.typeIs F.entry_zip_next (zipA_next_item S D1 D2 hz hTI hTO st1 st2 hlt1 hlt2 fun x1 x2 h' tk y1 y2 c1 c2 d1 d2 c5 c6 k => wpAny_pure ((hQ x1 x2 h' tk y1 y2 c1 c2 d1 d2 c5 c6 k))) (F.args_zip_next_1 _)))
theorem zipA_nextOf_end {Q : Value → Shared → Prop} (S : ZipSep2 z TI TO i1 i2 fp1 fp2) (D1 : Draws prog w A.in1 i1 fp1 n1 P1 St1) (D2 : Draws prog w A.in1 i2 fp2 n2 P2 St2)
    (hz : ZipA s.heap z TI TO) (hTI : IsTupOf2 s.heap TI (.ref i1) (.ref i2)) (hTO : IsTupOf2 s.heap TO a1 a2) (st1 : St1 i s.heap) (st2 : St2 i s.heap) (hle1 : i ≤ n1) (hle2 : i ≤ n2) (hend : i = n1 ∨ i = n2)
    (hE : ∀ h' tk e, (∀ c o, c ≠ z → c ≠ TO → c ≠ i1 → c ≠ i2 → s.heap.get? c = some o → h'.get? c = some o) → (∃ o, h'.get? e = some o ∧ o.cls = .type "StopIteration") → E (.ref e) { s with heap := h', toks := tk }) :
    wpAny (model prog w) A (Builtin.SmallTypes.nextOf (.ref z)) Q E s := by
  unfold Builtin.SmallTypes.nextOf
  exact wpAny_bind (wpAny_callSpecial?_slot (name := Str.ofString "__next__") hz.typeIs F.slot_zip_next
    (wpAny_call_entry F.slot_zip_next hz.typeIs F.entry_zip_next (zipA_next_end S D1 D2 hz hTI hTO st1 st2 hle1 hle2 hend hE) (F.args_zip_next_1 _)))
/-- enumerate's turn over whatever makes new objects at its own turn -/
theorem enumN_next_item {e it : Addr} {c : Int} {old : Value} {Ch : List Addr} {PX : Value → Heap → Prop} {Q : Value → Shared → Prop} (he : IsEnum s.heap e it c old) (hne : e ∉ Ch)
    (hn : ∀ Q' : Value → Shared → Prop, (∀ x h1 tk, PX x h1 → s.heap.objs.size ≤ h1.objs.size → (∀ b o, b ∉ Ch → s.heap.get? b = some o → h1.get? b = some o) → Q' x { s with heap := h1, toks := tk }) → wpAny (model prog w) A (Builtin.SmallTypes.nextOf (.ref it)) Q' E s)
    (hQ : ∀ x h1 h' tk, PX x h1 → s.heap.objs.size ≤ h1.objs.size → (∀ b o, b ∉ Ch → s.heap.get? b = some o → h1.get? b = some o) → IsEnumOut h' e it (c + 1) x h1.objs.size →
      h'.get? h1.objs.size = some { cls := .type "tuple", data := .seq #[.int c tk, x] } → h'.objs.size = h1.objs.size + 1 → (∀ b o, b ≠ e → h1.get? b = some o → h'.get? b = some o) → Q (.ref h1.objs.size) { s with heap := h', toks := tk + 1 }) :
    wpAny (model prog w) A (Builtin.«enumerate.__next__» ⟨[.ref e], []⟩) (fun fin s' => ∃ v, fin = .done (.ret v) ∧ Q v s') E s := by
  obtain ⟨hp, g, d, tk₀, os⟩ := s
  show wpAny _ _ (field (.ref e) 2 >>= _) _ _ _
  refine wpAny_bind (wpAny_field he rfl (x := .ref it) rfl ?_)
  refine wpAny_bind (hn _ fun x h₁ tk hPx hle hs₁ => ?_)
  have he₁ : IsEnum h₁ e it c old := hs₁ e _ hne he
  show wpAny _ _ (field (.ref e) 3 >>= _) _ _ ⟨h₁, g, d, tk, os⟩
  refine wpAny_bind (wpAny_field he₁ rfl (x := rawInt c) rfl ?_)
  show wpAny _ _ (field (.ref e) 4 >>= _) _ _ ⟨h₁, g, d, tk, os⟩
  refine wpAny_bind (wpAny_field he₁ rfl (x := .none) rfl ?_)
  show wpAny _ _ (mkInt c >>= _) _ _ ⟨h₁, g, d, tk, os⟩
  refine wpAny_bind (wpAny_mkInt ?_)
  show wpAny _ _ (setField (.ref e) 3 (rawInt (c + 1)) >>= _) _ _ ⟨h₁, g, d, tk + 1, os⟩
  refine wpAny_bind (wpAny_setField_rec he₁ (by simp) fun h₂ he₂ hs₂ => ?_)
  replace hs₂ : Heap.SameBut e h₁ h₂ := hs₂
  replace he₂ : IsEnum h₂ e it (c + 1) old := he₂
  show wpAny _ _ (setField (.ref e) 4 .none >>= _) _ _ ⟨h₂, g, d, tk + 1, os⟩
  refine wpAny_bind (wpAny_setField_rec he₂ (by simp) fun h₃ he₃ hs₃ => ?_)
  replace hs₃ : Heap.SameBut e h₂ h₃ := hs₃
  replace he₃ : IsEnum h₃ e it (c + 1) old := he₃
  show wpAny _ _ (newTuple [.int c tk, x] >>= _) _ _ ⟨h₃, g, d, tk + 1, os⟩
  refine wpAny_bind (wpAny_newTuple ?_)
  have he₄ : IsEnum (h₃.push { cls := .type "tuple", data := .seq #[.int c tk, x] }) e it (c + 1) old := Heap.get?_push_of_some _ he₃
  generalize hh₄ : h₃.push { cls := .type "tuple", data := .seq #[.int c tk, x] } = h₄ at he₄
  have hsz : h₃.objs.size = h₁.objs.size := by rw [hs₃.1, hs₂.1]
  have hel : e < h₁.objs.size := Heap.lt_size he₁
  have ht₄ : h₄.get? h₁.objs.size = some { cls := .type "tuple", data := .seq #[.int c tk, x] } := by rw [← hh₄, ← hsz]; exact Heap.get?_push_size _ rfl
  have hz₄ : h₄.objs.size = h₁.objs.size + 1 := by rw [← hh₄, Heap.size_push, hsz]
  have hk₄ : ∀ b o, b ≠ e → h₁.get? b = some o → h₄.get? b = some o := fun b o hbe hb => by
    rw [← hh₄]; exact Heap.get?_push_of_some _ (hs₃.extBut b o hbe (hs₂.extBut b o hbe hb))
  show wpAny _ _ (Builtin.SmallTypes.ownedTupleIsFree (.ref e) >>= _) _ _ ⟨h₄, g, d, tk + 1, os⟩
  rw [hsz]
  clear hh₄ he₃ hs₃ he₂ hs₂ hsz h₃ h₂
  refine wpAny_bind ?_
  · unfold Builtin.SmallTypes.ownedTupleIsFree
    refine wpAny_bind (wpAny_field he₄ rfl (x := .none) rfl (wpAny_pure ?_))
    simp only [if_true]
    refine wpAny_bind (wpAny_rule ?_)
    refine wpAny_bind (wpAny_field he₄ rfl (x := old) rfl ?_)
    refine wpAny_bind (wpAny_setField_rec he₄ (by simp) fun h₅ he₅ hs₅ => ?_)
    replace hs₅ : Heap.SameBut e h₄ h₅ := hs₅
    replace he₅ : IsEnum h₅ e it (c + 1) x := he₅
    show wpAny _ _ (Builtin.SmallTypes.ownedTupleHandOut (.ref e) (.ref h₁.objs.size) >>= _) _ _ ⟨h₅, g, d, tk + 1, os⟩
    refine wpAny_bind ?_
    · unfold Builtin.SmallTypes.ownedTupleHandOut
      refine wpAny_bind (wpAny_setField_rec he₅ (by simp) fun h₆ he₆ hs₆ => ?_)
      replace hs₆ : Heap.SameBut e h₅ h₆ := hs₆
      replace he₆ : IsEnumOut h₆ e it (c + 1) x h₁.objs.size := he₆
      refine wpAny_setField_rec he₆ (by simp) fun h₇ he₇ hs₇ => ?_
      replace hs₇ : Heap.SameBut e h₆ h₇ := hs₇
      replace he₇ : IsEnumOut h₇ e it (c + 1) x h₁.objs.size := he₇
      refine wpAny_bind (wpAny_letGo (wpAny_pure ⟨_, rfl, hQ x h₁ h₇ tk hPx hle hs₁ he₇ ?_ ?_ ?_⟩))
      · exact hs₇.extBut _ _ (Nat.ne_of_gt hel) (hs₆.extBut _ _ (Nat.ne_of_gt hel) (hs₅.extBut _ _ (Nat.ne_of_gt hel) ht₄))
      · rw [hs₇.1, hs₆.1, hs₅.1, hz₄]
      · exact fun b o hbe hb => hs₇.extBut b o hbe (hs₆.extBut b o hbe (hs₅.extBut b o hbe (hk₄ b o hbe hb)))
theorem enumN_pyNext_item {e it : Addr} {c : Int} {old : Value} {Ch : List Addr} {PX : Value → Heap → Prop} {Q : Option Value → Shared → Prop} (he : IsEnum s.heap e it c old) (hne : e ∉ Ch)
    (hn : ∀ (E : Value → Shared → Prop) (Q' : Value → Shared → Prop), (∀ x h1 tk, PX x h1 → s.heap.objs.size ≤ h1.objs.size → (∀ b o, b ∉ Ch → s.heap.get? b = some o → h1.get? b = some o) → Q' x { s with heap := h1, toks := tk }) → wpAny (model prog w) A.in1 (Builtin.SmallTypes.nextOf (.ref it)) Q' E s)
    (hQ : ∀ x h1 h' tk, PX x h1 → s.heap.objs.size ≤ h1.objs.size → (∀ b o, b ∉ Ch → s.heap.get? b = some o → h1.get? b = some o) → IsEnumOut h' e it (c + 1) x h1.objs.size →
      h'.get? h1.objs.size = some { cls := .type "tuple", data := .seq #[.int c tk, x] } → h'.objs.size = h1.objs.size + 1 → (∀ b o, b ≠ e → h1.get? b = some o → h'.get? b = some o) → Q (some (.ref h1.objs.size)) { s with heap := h', toks := tk + 1 }) :
    wpAny (model prog w) A (pyNext (.ref e)) Q E s := by
  have hT : s.TypeIs (.ref e) "enumerate" := ⟨_, he, rfl⟩
  unfold pyNext
  exact wpAny_bind (wpAny_attempt (wpAny_callSpecial?_slot (name := Str.ofString "__next__") hT F.slot_enumerate_next
    (wpAny_call_entry F.slot_enumerate_next hT F.entry_enumerate_next
      (enumN_next_item he hne (hn _) fun x h1 h' tk a b k c d z k2 => wpAny_pure (hQ x h1 h' tk a b k c d z k2)) (F.args_enumerate_next_1 _))))
theorem enumN_pyNext_end {e it : Addr} {c : Int} {old : Value} {Ch : List Addr} {Q : Option Value → Shared → Prop} (he : IsEnum s.heap e it c old)
    (hn : ∀ (E : Value → Shared → Prop) (Q' : Value → Shared → Prop), (∀ h' tk x, (∀ b o, b ∉ Ch → s.heap.get? b = some o → h'.get? b = some o) → (∃ o, h'.get? x = some o ∧ o.cls = .type "StopIteration") → E (.ref x) { s with heap := h', toks := tk }) → wpAny (model prog w) A.in1 (Builtin.SmallTypes.nextOf (.ref it)) Q' E s)
    (hQ : ∀ h' tk, (∀ b o, b ∉ Ch → s.heap.get? b = some o → h'.get? b = some o) → Q none { s with heap := h', toks := tk }) : wpAny (model prog w) A (pyNext (.ref e)) Q E s := by
  have hT : s.TypeIs (.ref e) "enumerate" := ⟨_, he, rfl⟩
  unfold pyNext
  refine wpAny_bind (wpAny_attempt (wpAny_callSpecial?_slot (name := Str.ofString "__next__") hT F.slot_enumerate_next
    (wpAny_call_entry F.slot_enumerate_next hT F.entry_enumerate_next ?_ (F.args_enumerate_next_1 _))))
  show wpAny _ _ (field (.ref e) 2 >>= _) _ _ _
  refine wpAny_bind (wpAny_field he rfl (x := .ref it) rfl ?_)
  refine wpAny_bind (hn _ _ fun h' tk x hk hx => ?_)
  obtain ⟨o, ho, hc⟩ := hx
  refine wpAny_bind (wpAny_isInstance (T := "StopIteration") (b := true) ⟨o, ho, hc⟩ isSubtype_stop ?_)
  exact wpAny_pure (hQ _ _ hk)
end
/-! ### enumerate of what is its own iterator -/
theorem enum_newS {z : Addr} {K : Heap → Prop} (B : ∀ (prog : Program) (w : World) (A : Around) (E : Value → Shared → Prop) (s : Shared) (Q : Value → Shared → Prop), K s.heap → Q (.ref z) s → wpAny (model prog w) A (pyIter (.ref z)) Q E s) :
    Meets (Builtin.«enumerate.__new__» ⟨[.type "enumerate", .ref z], []⟩) (fun _ R s => K s.heap ∧
      R (.ok (.ret (.ref s.heap.objs.size))) { s with heap := s.heap.push { cls := .type "enumerate", data := .fields #[.none, .bool false, .ref z, rawInt 0, .none, .none] } }) :=
  .of_wp fun prog w A R s h => by
    obtain ⟨hp, g, d, tk, os⟩ := s; obtain ⟨h1, h⟩ := h
    have hsub := sub_enumerate
    have q1 : ∀ {A' : Around} {E : Value → Shared → Prop} {Q : Value → Shared → Prop}, Q (.ref z) ⟨hp, g, d, tk, os⟩ → wpAny (model prog w) A' (pyIter (.ref z)) Q E ⟨hp, g, d, tk, os⟩ :=
      fun q => B prog w _ _ ⟨hp, g, d, tk, os⟩ _ h1 q
    wp_walk using q1
    refine wpAny_stack_any fun st => wpAny_pure ?_
    split
    · rename_i c _ _ _ _ _
      cases (c == Value.type "enumerate") <;> (wp_walk using q1; exact ⟨_, rfl, h⟩)
    · wp_walk using q1; exact ⟨_, rfl, h⟩
theorem enum_callS {prog : Program} {w : World} {A : Around} {E : Value → Shared → Prop} {s : Shared} {z : Addr} {K : Heap → Prop} {Q : Value → Shared → Prop} (B : ∀ (prog : Program) (w : World) (A : Around) (E : Value → Shared → Prop) (s : Shared) (Q : Value → Shared → Prop), K s.heap → Q (.ref z) s → wpAny (model prog w) A (pyIter (.ref z)) Q E s) (h1 : K s.heap)
    (h : ∀ h', IsEnum h' s.heap.objs.size z 0 .none → h'.objs.size = s.heap.objs.size + 1 → (∀ b o, s.heap.get? b = some o → h'.get? b = some o) → Q (.ref s.heap.objs.size) { s with heap := h' }) :
    wpAny (model prog w) A (call (.type "enumerate") [.ref z]) Q E s := by
  refine callType_new F.called_enumerate (by decide) (F.typeCall_enumerate_1 _) (F.newCall_enumerate_1 _) (fun obj => F.args_object_init_2 obj _) F.entry_enumerate_new (enum_newS B) ⟨h1, ?_⟩
  have he : IsEnum (s.heap.push { cls := .type "enumerate", data := .fields #[.none, .bool false, .ref z, rawInt 0, .none, .none] }) s.heap.objs.size z 0 .none := Heap.get?_push_size _ rfl
  exact ⟨⟨_, he, rfl⟩, h _ he (Heap.size_push ..) fun b o x => Heap.get?_push_of_some _ x⟩
def Jez (b1 b2 : Bool) (K : PySem.W.Frag) (a1 a2 : Addr) : It :=
  ⟨fun i H => ∃ (xs ys : List V) (x y : V), SqB b1 K H a1 xs ∧ SqB b2 K H a2 ys ∧ xs[i]? = some x ∧ ys[i]? = some y,
   fun i H v H' => ∃ T1 T2 x y o1 o2, v = .ref T2 ∧ H T1 = none ∧ H T2 = none ∧ T2 ≠ T1 ∧ o1.dict = none ∧ o2.dict = none ∧ H' = upd (upd H T1 (.frz o1 (.tup [x, y]))) T2 (.frz o2 (.tup [.int (i : Nat), .ref T1])) ∧ (∀ xs, SqB b1 K H a1 xs → xs[i]? = some x) ∧ ∀ ys, SqB b2 K H a2 ys → ys[i]? = some y,
   fun i H => ∃ xs ys : List V, SqB b1 K H a1 xs ∧ SqB b2 K H a2 ys ∧ min xs.length ys.length = i⟩
theorem fpUpd {X : Cx} {pins : List (Addr × Obj)} {H : Hp} {b T : Addr} {o : HO} (h : FpOk X pins H b) (ne : b ≠ T) : FpOk X pins (upd H T o) b :=
  ⟨by rw [upd_ne ne]; exact h.1, h.2⟩
theorem turn_ez {P : Program} {w : World} {K : PySem.W.Frag} {elts : List Expr} {kk : Nat} {tpos : Pos} (b1 b2 : Bool) (e z TI TO i1 i2 a1 a2 : Addr) (D : Ap2 z TI TO i1 i2 a1 a2) (hne : e ∉ [z, TI, TO, i1, i2]) :
    Turn P w K (.Tuple elts kk tpos) (Jez b1 b2 K a1 a2) [e, z, TI, TO, i1, i2] e
      (fun i h => (∃ old, IsEnum h e z ((i : Nat) : Int) old) ∧ ZipA h z TI TO ∧ IsTupOf2 h TI (.ref i1) (.ref i2) ∧ (∃ x y, IsTupOf2 h TO x y) ∧ ItB b1 h i1 a1 i ∧ ItB b2 h i2 a2 i) where
  mem := by simp
  obj := fun i h st c hc => by
    obtain ⟨⟨old, he⟩, ⟨f0, bb, hz, _⟩, hTI, ⟨x, y, hTO⟩, h1, h2⟩ := st
    have e' : c = e ∨ c = z ∨ c = TI ∨ c = TO ∨ c = i1 ∨ c = i2 := by simpa using hc
    rcases e' with q | q | q | q | q | q
    · rw [q]; exact ⟨_, he, fun v q => nomatch q⟩
    · rw [q]; exact ⟨_, hz, fun v q => nomatch q⟩
    · rw [q]; exact ⟨_, hTI, fun v q => nomatch q⟩
    · rw [q]; exact ⟨_, hTO, fun v q => nomatch q⟩
    · rw [q]; exact h1.cell
    · rw [q]; exact h2.cell
  keep := fun i h h' st k => by
    obtain ⟨⟨old, he⟩, ⟨f0, bb, hz, hf0⟩, hTI, ⟨x, y, hTO⟩, h1, h2⟩ := st
    exact ⟨⟨old, k e (by simp) _ he⟩, ⟨f0, bb, k z (by simp) _ hz, hf0⟩, k TI (by simp) _ hTI, ⟨x, y, k TO (by simp) _ hTO⟩, h1.at (k i1 (by simp)), h2.at (k i2 (by simp))⟩
  item := by
    intro X hP hw hK hc i pins s σ H E I hf st hg
    subst hP hw hK
    obtain ⟨⟨old, he⟩, hz, hTI, hTO, h1, h2⟩ := st
    obtain ⟨xs, ys, x, y, hq1, hq2, hx, hy⟩ := hg
    obtain ⟨its1, rv1, sr1, _⟩ := inv_sq I hq1
    obtain ⟨its2, rv2, sr2, _⟩ := inv_sq I hq2
    obtain ⟨u1, hu1, ru1⟩ := rv1.get hx
    obtain ⟨u2, hu2, ru2⟩ := rv2.get hy
    have l1 : i < its1.toArray.size := by simpa using (List.getElem?_eq_some_iff.mp hu1).1
    have l2 : i < its2.toArray.size := by simpa using (List.getElem?_eq_some_iff.mp hu2).1
    have D1 := drawsB b1 (prog := X.prog) (w := X.w) (A := X.A.in1.in1) (I.ok.hd hc) i1 a1 D.n1 its1.toArray
    have D2 := drawsB b2 (prog := X.prog) (w := X.w) (A := X.A.in1.in1) (I.ok.hd hc) i2 a2 D.n2 its2.toArray
    obtain ⟨x0, y0, hTO⟩ := hTO
    have hez : e ≠ z := fun q => hne (by simp [q])
    have heTO : e ≠ TO := fun q => hne (by simp [q])
    have heTI : e ≠ TI := fun q => hne (by simp [q])
    have he1 : e ≠ i1 := fun q => hne (by simp [q])
    have he2 : e ≠ i2 := fun q => hne (by simp [q])
    have lt : ∀ c ∈ [e, z, TI, TO, i1, i2], c < s.heap.objs.size := fun c hcm => by
      have e' : c = e ∨ c = z ∨ c = TI ∨ c = TO ∨ c = i1 ∨ c = i2 := by simpa using hcm
      rcases e' with q | q | q | q | q | q
      · rw [q]; exact Heap.lt_size he
      · rw [q]; obtain ⟨_, _, hz, _⟩ := hz; exact Heap.lt_size hz
      · rw [q]; exact Heap.lt_size hTI
      · rw [q]; exact Heap.lt_size hTO
      · rw [q]; obtain ⟨_, e, _⟩ := h1.cell; exact Heap.lt_size e
      · rw [q]; obtain ⟨_, e, _⟩ := h2.cell; exact Heap.lt_size e
    refine enumN_pyNext_item (A := X.A) (Ch := [z, TO, i1, i2]) (PX := fun v h1 => v = .ref s.heap.objs.size ∧ ZipA h1 z TI TO ∧ (∃ b1 b2, IsTupOf2 h1 TO b1 b2) ∧ ItB b1 h1 i1 a1 (i + 1) ∧ ItB b2 h1 i2 a2 (i + 1) ∧ IsTupOf2 h1 s.heap.objs.size u1 u2 ∧ h1.objs.size = s.heap.objs.size + 1) he (by simp [hez, heTO, he1, he2]) (fun E' Q' k => ?_) ?_
    · refine zipA_nextOf_item (A := X.A.in1) D.sep D1 D2 hz hTI hTO ⟨h1, sr1⟩ ⟨h2, sr2⟩ l1 l2 fun z1 z2 h' tk e1 e2 c1 c2 d1 d2 c5 c6 hk => ?_
      have q1 : u1 = z1 := by rw [List.getElem?_toArray] at e1; rw [hu1] at e1; exact Option.some.inj e1
      have q2 : u2 = z2 := by rw [List.getElem?_toArray] at e2; rw [hu2] at e2; exact Option.some.inj e2
      subst q1 q2
      refine k _ h' tk ⟨rfl, c1, c2, d1.1, d2.1, c5, c6⟩ (by rw [c6]; exact Nat.le_succ _) fun b o hb q => ?_
      simp only [List.mem_cons, List.not_mem_nil, or_false, not_or] at hb
      exact hk b o hb.1 hb.2.1 hb.2.2.1 hb.2.2.2 q
    · rintro v g1 h' tk ⟨rfl, c1, ⟨r1, r2, c2⟩, d1, d2, c5, c6⟩ hle hkeep hout hT2 hsz hk
      refine ⟨_, rfl, wpAny_letOwnedTupleGo_enum (s := { s with heap := h', toks := tk + 1 }) hout fun h'' he'' sb => ?_⟩
      have neN : ∀ c ∈ [e, z, TI, TO, i1, i2], c ≠ s.heap.objs.size := fun c hcm q => absurd (lt c hcm) (by rw [q]; exact Nat.lt_irrefl _)
      have up : ∀ c o, c ≠ e → g1.get? c = some o → h''.get? c = some o := fun c o hce q => (sb.2 c hce).trans (hk c o hce q)
      have kp1 : ∀ c o, c ∉ [e, z, TI, TO, i1, i2] → s.heap.get? c = some o → g1.get? c = some o := fun c o hcn q => hkeep c o (fun hm => hcn (by simp at hm ⊢; rcases hm with h | h | h | h <;> simp [h])) q
      have new1 : ObjOk X.prog X.w (upd H s.heap.objs.size (.frz (Ev.TO [u1, u2]) (.tup [x, y]))) g1 s.heap.objs.size (.frz (Ev.TO [u1, u2]) (.tup [x, y])) :=
        ⟨c5, by rw [line_eq]; simp, [u1, u2], .cons ru1 (.cons ru2 .nil), ⟨_, c5, rfl, _, rfl⟩⟩
      have I1 : Inv X pins σ (upd H s.heap.objs.size (.frz (Ev.TO [u1, u2]) (.tup [x, y]))) { s with heap := g1, toks := tk } := I.turnedNew (t' := tk) (ch := [e, z, TI, TO, i1, i2]) kp1 hf (Nat.le_refl _) new1
      have hT2' : h''.get? g1.objs.size = some (Ev.TO [.int (i : Int) tk, .ref s.heap.objs.size]) := (sb.2 _ (Nat.ne_of_gt (Heap.lt_size (hkeep e _ (by simp [hez, heTO, he1, he2]) he)))).trans hT2
      have new2 : ObjOk X.prog X.w (upd (upd H s.heap.objs.size (.frz (Ev.TO [u1, u2]) (.tup [x, y]))) g1.objs.size (.frz (Ev.TO [.int (i : Int) tk, .ref s.heap.objs.size]) (.tup [.int (i : Nat), .ref s.heap.objs.size]))) h'' g1.objs.size (.frz (Ev.TO [.int (i : Int) tk, .ref s.heap.objs.size]) (.tup [.int (i : Nat), .ref s.heap.objs.size])) :=
        ⟨hT2', by rw [line_eq]; simp, [.int (i : Int) tk, .ref s.heap.objs.size], .cons ⟨tk, rfl⟩ (.cons rfl .nil), ⟨_, hT2', rfl, _, rfl⟩⟩
      have I2 := I1.turnedNew (h' := h'') (t' := tk + 1) (ch := [e, z, TI, TO, i1, i2]) (fun c o hcn q => up c o (fun q' => hcn (by simp [q'])) q) (fun b hb => fpUpd (hf b hb) (neN b hb)) (Nat.le_refl _) new2
      refine ⟨.ref g1.objs.size, _, I2, rfl, ⟨s.heap.objs.size, g1.objs.size, x, y, _, _, rfl, I.hok.fresh (Nat.le_refl _), I.hok.fresh hle, (by rw [c6]; exact Nat.succ_ne_self _), rfl, rfl, rfl, fun l hl => by rw [inv_sq_inj I hl hq1]; exact hx, fun l hl => by rw [inv_sq_inj I hl hq2]; exact hy⟩, ⟨⟨_, by simpa using he''⟩, ?_, ?_, ⟨r1, r2, ?_⟩, ?_, ?_⟩, fun c hcm => ?_⟩
      · obtain ⟨f0, bb, hzz, hf0⟩ := c1
        exact ⟨f0, bb, up _ _ (Ne.symm hez) hzz, hf0⟩
      · exact up _ _ (Ne.symm heTI) (hkeep TI _ (by simp [D.sep.TIz, D.sep.TITO, D.sep.TIi1, D.sep.TIi2]) hTI)
      · exact up _ _ (Ne.symm heTO) c2
      · exact d1.at fun o q => up _ _ (Ne.symm he1) q
      · exact d2.at fun o q => up _ _ (Ne.symm he2) q
      · rw [upd_ne (fun q => absurd (lt c hcm) (by rw [q, c6]; exact Nat.not_lt.mpr (Nat.le_succ _))), upd_ne (neN c hcm)]
        exact (hf c hcm).1
  done := by
    intro X hP hw hK hc i pins s σ H E I hf st hg
    subst hP hw hK
    obtain ⟨⟨old, he⟩, hz, hTI, ⟨x0, y0, hTO⟩, h1, h2⟩ := st
    obtain ⟨xs, ys, hq1, hq2, hx⟩ := hg
    obtain ⟨its1, rv1, sr1, _⟩ := inv_sq I hq1
    obtain ⟨its2, rv2, sr2, _⟩ := inv_sq I hq2
    have l1 := rv1.length
    have l2 := rv2.length
    have D1 := drawsB b1 (prog := X.prog) (w := X.w) (A := X.A.in1.in1) (I.ok.hd hc) i1 a1 D.n1 its1.toArray
    have D2 := drawsB b2 (prog := X.prog) (w := X.w) (A := X.A.in1.in1) (I.ok.hd hc) i2 a2 D.n2 its2.toArray
    refine enumN_pyNext_end (A := X.A) (Ch := [z, TO, i1, i2]) he (fun E' Q' k => ?_) fun h' tk hk => ?_
    · refine zipA_nextOf_end (A := X.A.in1) D.sep D1 D2 hz hTI hTO ⟨h1, sr1⟩ ⟨h2, sr2⟩ (by simp; omega) (by simp; omega) (by simp; omega) fun h' tk e hk hx => k h' tk e (fun b o hb q => ?_) hx
      simp only [List.mem_cons, List.not_mem_nil, or_false, not_or] at hb
      exact hk b o hb.1 hb.2.1 hb.2.2.1 hb.2.2.2 q
    · exact ⟨rfl, I.turnedL (t' := tk) (ch := [e, z, TI, TO, i1, i2]) (fun c o hcn q => hk c o (fun hm => hcn (by simp at hm ⊢; rcases hm with h | h | h | h <;> simp [h])) q) hf⟩
  self := fun A i s Q E st h => let ⟨⟨_, he⟩, _⟩ := st; wpAny_pyIter_enum he h
section
variable {T : Nm} {C : Cl} {X : Cx} {pos : Pos}
theorem i_enz {e f : E} {pe pf : Expr} {x y : Str} {p p2 pos2 tpos : Pos} {elts : List Expr} {kk : Nat} (F : Fit T C X) (hp : plainE pe = true) (hp2 : plainE pf = true) (hx : T.bi "enumerate" x = true) (hy : T.bi "zip" y = true) (he : PE X pe (tE X.K C e)) (hf : PE X pf (tE X.K C f)) :
    PI X (.Tuple elts kk tpos) (.Call (.Name x p) [.Call (.Name y p2) [pe, pf] [] pos2] [] pos) (tI X.K C (.enz e f)) := by
  obtain ⟨rfl, hg, hm⟩ := F.bi hx
  obtain ⟨rfl, hg2, hm2⟩ := F.bi hy
  refine ⟨fun pins s σ H R I h => ?_⟩
  obtain ⟨s0, M, r, l, ss, M', hs, hm0, e, hk, q⟩ := h
  simp only [evI] at e
  obtain ⟨w1, M1, e1, ea⟩ := bind_ok e
  obtain ⟨w2, M2, e2, eb⟩ := bind_ok ea
  obtain ⟨e3, rfl⟩ := opt_ok eb
  obtain ⟨l1, e4, e5⟩ := Option.bind_eq_some_iff.mp e3
  obtain ⟨l2, e6, e7⟩ := Option.map_eq_some_iff.mp e5
  cases e7
  generalize hb1 : (asT w1).isSome = b1
  generalize hb2 : (asT w2).isSome = b2
  refine Call_ (ld_blt I hg hm boot_enumerate (PyProof.Rows.callWith_type1 (PyProof.Rows.args_cons ?_)))
  refine Call_ (ld_blt I hg2 hm2 PyProof.Rows.boot_zip (PyProof.Rows.callWith_type1 (thn ((pa_cons he (pa_cons hf pa_nil (plain_star hp2)) (plain_star hp)).run pos2 pins s σ H (fun vs H1 => ∃ a a2, vs = [.ref a, .ref a2] ∧ (∃ xs, SqB b1 X.K H1 a xs ∧ xs.length = l1.length) ∧ (∃ xs, SqB b2 X.K H1 a2 xs ∧ xs.length = l2.length) ∧ (l1.length ≤ sizeLine → R (Jez b1 b2 X.K a a2) H1)) I ⟨s0, M, r, w1, M1, hs, hm0, e1, fun r1 H1 v1 st1 m1 rw1 => ⟨s0, M1, r1, w2, M', hs.gr (st1.gr hm0), m1, e2, fun r2 H2 v2 st2 m2 rw2 => ?_⟩⟩) fun us s1 ⟨vs, H1, I1, r1, q1⟩ => ?_) (plain_star hp) (plain_any (by rw [List.all_cons, hp2]; rfl))))
  · obtain ⟨a, rfl, h1, sta⟩ := row_stays m2 (rw1.stp m1 st2) e4
    obtain ⟨a2, rfl, h2, stb⟩ := row_stays m2 rw2 e6
    rw [hb1] at h1 sta
    rw [hb2] at h2 stb
    refine ⟨a, a2, rfl, h1, h2, fun hz => q r2 H2 _ (st1.trans st2) m2 ?_ (by rw [enumD_len, zipD_len]; exact Nat.le_trans (Nat.min_le_left _ _) hz)⟩
    intro r3 H3 M3 st3 m3 k3
    obtain ⟨vs3, h3, rds⟩ := sta r3 H3 M3 st3 m3 k3.left
    obtain ⟨us3, h4, rds2⟩ := stb r3 H3 M3 st3 m3 k3.right
    refine ⟨⟨vs3, us3, h3, h4, by rw [enumD_len, zipD_len, rds.length, rds2.length]⟩, fun i d hd => ?_⟩
    obtain ⟨d0, hd0, rfl⟩ := enumD_get hd
    obtain ⟨d1, d2, g1, g2, rfl⟩ := zipD_get hd0
    obtain ⟨v, g3, g4⟩ := rds.get g1
    obtain ⟨v', g5, g6⟩ := rds2.get g2
    refine ⟨⟨vs3, us3, v, v', h3, h4, g3, g5⟩, fun x H' hy => ?_⟩
    obtain ⟨T1, T2, x, y, o1, o2, rfl, hT1, hT2, ne, hd1, hd2, rfl, hy, hy2⟩ := hy
    have hx := hy vs3 h3
    have hx2 := hy2 us3 h4
    rw [g3] at hx
    rw [g5] at hx2
    cases hx
    cases hx2
    obtain ⟨A1, A2, A3⟩ := yld_tup m3 hT1 hd1 (.cons g4 (.cons g6 .nil))
    obtain ⟨B1, B2, B3⟩ := yld_tup (l := [.int ((0 + i : Nat) : Int), .tup [d1, d2]]) A2 (by rw [upd_ne ne]; exact hT2) hd2 (.cons (.int _) (.cons A3 .nil))
    rw [Nat.zero_add] at B1 B2 B3 ⊢
    exact ⟨A1.trans B1, B2, B3⟩
  · obtain ⟨a, a2, rfl, ⟨xs, hq, hlen⟩, ⟨ys, hq2, _⟩, q1⟩ := q1
    cases r1 with
    | cons r rr =>
      cases rr with
      | cons r' rr =>
        cases rr
        cases r
        cases r'
        obtain ⟨its, rv, sr, hz⟩ := inv_sq I1 hq
        obtain ⟨its2, rv2, sr2, hz2⟩ := inv_sq I1 hq2
        refine zip_begins2 (beginsB b1 a its.toArray) (beginsB b2 a2 its2.toArray) sr sr2 fun h' hzz hTI hTO h1 h2 hsz hk => ?_
        refine PyProof.Rows.args_nil ?_
        refine enum_callS (z := s1.heap.objs.size + 4) (K := fun h => IsZip h (s1.heap.objs.size + 4) (s1.heap.objs.size + 2) (s1.heap.objs.size + 3) .none) (fun prog w A E s Q hK hQ => wpAny_pyIter_zip hK hQ) hzz fun h'' hen hsz2 hk2 => ?_
        refine wpAny_pyIter_enum hen ?_
        have hsz' : h'.objs.size = s1.heap.objs.size + 5 := hsz
        have I2 : Inv X pins σ H1 { s1 with heap := h'' } := I1.kept (t' := s1.toks) fun b o q => hk2 b o (hk b o q)
        have hee : ({ s1 with heap := h' } : Shared).heap.objs.size = s1.heap.objs.size + 5 := hsz'
        rw [hee] at hen ⊢
        refine ⟨s1.heap.objs.size + 5, [s1.heap.objs.size + 5, s1.heap.objs.size + 4, s1.heap.objs.size + 2, s1.heap.objs.size + 3, s1.heap.objs.size, s1.heap.objs.size + 1], _, _, H1, rfl, I2, turn_ez b1 b2 (s1.heap.objs.size + 5) _ _ _ _ _ a a2 (ap2 sr.lt sr2.lt) ?_, ⟨⟨_, by simpa using hen⟩, ⟨.none, false, hk2 _ _ hzz, .inl rfl⟩, hk2 _ _ hTI, ⟨_, _, hk2 _ _ hTO⟩, ItB.ofOb (hk2 _ _ h1), ItB.ofOb (hk2 _ _ h2)⟩, fun c hcm => ?_, q1 (by rw [← hlen]; exact hz)⟩
        · simp only [List.mem_cons, List.not_mem_nil, or_false, not_or]
          refine ⟨?_, ?_, ?_, ?_, ?_⟩ <;> (intro q; have q : (s1.heap.objs.size + 5 : Nat) = _ := q; omega)
        · have e' : c = s1.heap.objs.size + 5 ∨ c = s1.heap.objs.size + 4 ∨ c = s1.heap.objs.size + 2 ∨ c = s1.heap.objs.size + 3 ∨ c = s1.heap.objs.size ∨ c = s1.heap.objs.size + 1 := by simpa using hcm
          have hle : s1.heap.objs.size ≤ c := by
            rcases e' with z | z | z | z | z | z
            · rw [z]; exact Nat.le_add_right _ _
            · rw [z]; exact Nat.le_add_right _ _
            · rw [z]; exact Nat.le_add_right _ _
            · rw [z]; exact Nat.le_add_right _ _
            · rw [z]; exact Nat.le_refl _
            · rw [z]; exact Nat.le_add_right _ _
          exact I1.fpOk hle (I1.hok.fresh hle)
end
end Ev

/-! EvB11: targets; list comprehensions. -/
namespace Ev
open PySem PySem.Spec PyProof.Rows L2
/-! ### targets -/
mutual
def Tg.slots : Tg → List Nat
  | .nm i => [i]
  | .tp ts => Tgs.slots ts
def Tgs.slots : Tgs → List Nat
  | .nil => []
  | .cons t r => Tg.slots t ++ Tgs.slots r
end
def Tgs.len : Tgs → Nat
  | .nil => 0
  | .cons _ r => r.len + 1
def noStar : Expr → Bool
  | .Starred _ _ => false
  | _ => true
mutual
def okT (T : Nm) : Tg → Expr → Bool
  | .nm i, .Name x _ => T.slot i x && T.sto x
  | .tp ts, .Tuple es _ _ => okTs T ts es
  | _, _ => false
def okTs (T : Nm) : Tgs → List Expr → Bool
  | .nil, [] => true
  | .cons t r, e :: es => noStar e && okT T t e && okTs T r es
  | _, _ => false
end
theorem wipe_get (σ : L2.St) : ∀ (vs : List Nat) (j : Nat), (wipe σ vs)[j]? = if j ∈ vs ∧ j < σ.length then some none else σ[j]?
  | [], j => by simp [wipe]
  | v :: vs, j => by
    unfold wipe
    rw [List.getElem?_set, wipe_length, wipe_get σ vs j]
    by_cases hv : v = j
    · subst hv
      by_cases hl : v < σ.length
      · simp [hl]
      · simp [hl]
    · have : ¬ j = v := fun z => hv z.symm
      simp [hv, this]
theorem wipe_set {σ : L2.St} {vs : List Nat} {i : Nat} (x : Option V) (h : i ∈ vs) : wipe (σ.set i x) vs = wipe σ vs := by
  apply List.ext_getElem?
  intro j
  rw [wipe_get, wipe_get, List.length_set]
  by_cases hj : j ∈ vs ∧ j < σ.length
  · rw [if_pos hj, if_pos hj]
  · rw [if_neg hj, if_neg hj]
    by_cases hi : i = j
    · subst hi
      have hn : ¬ i < σ.length := fun z => hj ⟨h, z⟩
      rw [List.getElem?_eq_none (by rw [List.length_set]; omega), List.getElem?_eq_none (by omega)]
    · rw [List.getElem?_set_ne hi]
theorem wipe_wipe (σ : L2.St) (vs : List Nat) : wipe (wipe σ vs) vs = wipe σ vs := by
  apply List.ext_getElem?
  intro j
  rw [wipe_get (wipe σ vs), wipe_length, wipe_get]
  by_cases hj : j ∈ vs ∧ j < σ.length
  · rw [if_pos hj, if_pos hj]
  · rw [if_neg hj, if_neg hj]
def gT (K : PySem.W.Frag) (t : Tg) : TG := fun v σ H Q => ∃ s M r d s', RS K r H s σ ∧ RM K r H M ∧ RD K r H d v ∧ asgT t d s = some s' ∧ ∀ σ', RS K r H s' σ' → (∀ ws : List Nat, (∀ i ∈ t.slots, i ∈ ws) → wipe σ' ws = wipe σ ws) → Q σ' H
def gTs (K : PySem.W.Frag) (t : Tgs) : TGs := fun vs σ H Q => ∃ s M r ds s', RS K r H s σ ∧ RM K r H M ∧ RDs K r H ds vs ∧ asgTs t ds s = some s' ∧ ∀ σ', RS K r H s' σ' → (∀ ws : List Nat, (∀ i ∈ t.slots, i ∈ ws) → wipe σ' ws = wipe σ ws) → Q σ' H
theorem _root_.L2.PG.imp {X : Cx} {e : Expr} {t t' : TG} (h : PG X e t) (i : ∀ v s H Q, t' v s H Q → t v s H Q) : PG X e t' := ⟨fun pins s σ H v u Q I r q => h.run pins s σ H v u Q I r (i v σ H Q q)⟩
theorem _root_.L2.PGs.imp {X : Cx} {e : List Expr} {t t' : TGs} (h : PGs X e t) (i : ∀ v s H Q, t' v s H Q → t v s H Q) : PGs X e t' := ⟨fun pins s σ H v u Q I r q => h.run pins s σ H v u Q I r (i v σ H Q q)⟩
theorem asgTs_len : ∀ {ts : Tgs} {l : List D} {s s' : Ev.Env}, asgTs ts l s = some s' → l.length = ts.len
  | .nil, [], _, _, _ => rfl
  | .nil, _ :: _, _, _, h => by simp [asgTs] at h
  | .cons _ _, [], _, _, h => by simp [asgTs] at h
  | .cons t r, d :: l, s, s', h => by
    simp only [asgTs] at h
    split at h
    · rw [List.length_cons, asgTs_len h]; rfl
    · cases h
section
variable {T : Nm} {C : Cl} {X : Cx} {pos : Pos}
theorem assign_each {e : Expr} {es : List Expr} {env : PySem.Env} (h : noStar e = true) : assignEach (e :: es) env = (false, assign e env) :: assignEach es env := by
  cases e <;> first | rfl | cases h
mutual
theorem g_tg (F : Fit T C X) : ∀ {t : Tg} {pe : Expr}, okT T t pe = true → PG X pe (gT X.K t)
  | .nm i, pe, h => by
    cases pe with
    | Name x p =>
      simp only [okT, Bool.and_eq_true] at h
      obtain ⟨hl, hf⟩ := F.loc h.2
      refine (pg_name (F.N ▸ F.nd) (F.slot h.1) hl hf).imp fun v σ H Q q => ?_
      obtain ⟨s, M, r, d, s', hs, hm, hd, e, q⟩ := q
      simp only [asgT] at e
      cases e
      exact q _ (hs.set hd i) fun ws hw => wipe_set _ (hw i (List.mem_singleton.mpr rfl))
    | _ => simp [okT] at h
  | .tp ts, pe, h => by
    cases pe with
    | Tuple es k p =>
      simp only [okT] at h
      obtain ⟨h1, h2, h3⟩ := g_tgs F h
      refine (pg_tup (n := ts.len) F.calm h1 h2 h3).imp fun v σ H Q q => ?_
      obtain ⟨s, M, r, d, s', hs, hm, hd, e, q⟩ := q
      cases d with
      | tup l =>
        simp only [asgT] at e
        cases hd with
        | tup h4 h5 => exact ⟨_, _, rfl, h4.sq, by rw [← h5.length]; exact asgTs_len e, s, M, r, l, s', hs, hm, h5, e, q⟩
      | _ => simp [asgT] at e
    | _ => simp [okT] at h
theorem g_tgs (F : Fit T C X) : ∀ {t : Tgs} {pe : List Expr}, okTs T t pe = true → PGs X pe (gTs X.K t) ∧ (assignEach pe X.env).length = t.len ∧ (assignEach pe X.env).findIdx? (·.1) = none
  | .nil, pe, h => by
    cases pe with
    | nil =>
      refine ⟨pgs_nil.imp fun v σ H Q q => ?_, rfl, rfl⟩
      obtain ⟨s, M, r, d, s', hs, hm, hd, e, q⟩ := q
      cases d with
      | nil => simp only [asgTs] at e; cases e; cases hd; exact ⟨rfl, q _ hs fun _ _ => rfl⟩
      | cons _ _ => simp [asgTs] at e
    | cons _ _ => simp [okTs] at h
  | .cons t ts, pe, h => by
    cases pe with
    | nil => simp [okTs] at h
    | cons e es =>
      simp only [okTs, Bool.and_eq_true] at h
      have h1 := g_tg F h.1.2
      obtain ⟨h2, h3, h4⟩ := g_tgs F h.2
      have ae := assign_each (es := es) (env := X.env) h.1.1
      refine ⟨(pgs_cons h1 h2 (by rw [ae]; rfl)).imp fun v σ H Q q => ?_, by rw [ae, List.length_cons, h3]; rfl, by rw [ae, List.findIdx?_cons]; simp [h4]⟩
      obtain ⟨s, M, r, d, s', hs, hm, hd, e, q⟩ := q
      cases hd with
      | nil => simp [asgTs] at e
      | cons hd hds =>
        simp only [asgTs] at e
        split at e
        · rename_i s1 e1
          refine ⟨_, _, rfl, s, M, r, _, s1, hs, hm, hd, e1, fun σ1 rs1 w1 => ⟨s1, M, r, _, s', rs1, hm, hds, e, fun σ' rs' w' => q σ' rs' fun ws hw => ?_⟩⟩
          rw [w' ws fun i hi => hw i (List.mem_append_right _ hi), w1 ws fun i hi => hw i (List.mem_append_left _ hi)]
        · cases e
end

/-! ### list comprehensions -/
def relS (sc scope : Scope) : Scope := { scope with names := scope.names.map fun (n, k) => if (k == NameKind.free && sc.kind == .function && sc.names.lookup n == some .cell) = true then (n, NameKind.cell) else (n, k) }
def Nm.inn (T : Nm) (scope : Scope) : Nm := { T with sc := relS T.sc scope, st := fun x => scope.names.lookup x == some .cell }
theorem Fit.blk (F : Fit T C X) (s : Shared) (H : Hp) (scope : Scope) (A : Addr) (cl : List (Str × Addr)) (fp : List Addr) : Fit (T.inn scope) C (X.blk s H scope (compEnvC scope cl A X.env) fp) :=
  ⟨F.calm, F.gd, F.un, F.N, F.nd, by show relabel scope X.env = relS T.sc scope; rw [← F.sc]; rfl, fun _ h => h, rfl, F.bt, F.gl, F.fn⟩
def tC (K : PySem.W.Frag) (C : Cl) (c : Eo) : TT := Tm K (evT C c) (fun _ _ _ a b => a = b)
theorem _root_.L2.PTs.imp {X : Cx} {e : List Expr} {t t' : TT} (h : PTs X e t) (i : ∀ s H Q, t' s H Q → t s H Q) : PTs X e t' := ⟨fun pins s σ H Q I q => h.run pins s σ H Q I (i σ H Q q)⟩
theorem c_none : PTs X [] (tC X.K C .none) := pts_nil.imp fun t H Q ⟨s, M, r, a, M', hs, hm, e, q⟩ => by simp only [evT] at e; cases e; exact q r H true .refl hm rfl
theorem c_some {e : E} {pe : Expr} (h : PT X pe (tB X.K C e)) : PTs X [pe] (tC X.K C (.some e)) := (pts_one h).imp fun t H Q ⟨s, M, r, a, M', hs, hm, e, q⟩ => ⟨s, M, r, a, M', hs, hm, by simp only [evT] at e; exact e, q⟩
theorem notin {r r' : List Addr} {H H' : Hp} {a : Addr} {u : HO} (st : Stp r H r' H') (hu : H a = some u) (h : a ∉ r) : a ∉ r' := fun hr => by
  rcases st.new a hr with z | z
  · exact h z
  · rw [hu] at z; cases z
theorem hide {K : PySem.W.Frag} {r : List Addr} {H : Hp} {M : Mem} {a : Addr} {vs : List V} (vs' : List V) (m : RM K r H M) (ha : a ∉ r) (hl : H a = some (.lst vs)) : RM K r (upd H a (.lst vs')) M ∧ Gr r H r (upd H a (.lst vs')) := by
  have g : Gr r H r (upd H a (.lst vs')) := ⟨⟨fun b xs hb => by rw [upd_ne (fun z => by subst z; rw [hl] at hb; cases hb)]; exact hb, fun b o u hb => by rw [upd_ne (fun z => by subst z; rw [hl] at hb; cases hb)]; exact hb⟩, fun _ _ h => h⟩
  refine ⟨⟨m.len, m.nd, fun n o h => ?_⟩, g⟩
  obtain ⟨b, h1, h2⟩ := m.obj n o h
  refine ⟨b, h1, h2.gr g ?_⟩
  rw [upd_ne]
  intro z
  subst z
  exact ha (List.mem_of_getElem? h1)
theorem Stp.hide {r r' : List Addr} {H H' : Hp} {a : Addr} {u : HO} (st : Stp r H r' H') (ha : H a = none) : Stp r H r' (upd H' a u) :=
  ⟨st.pre, st.new, fun b o h1 h2 => by rw [upd_ne (ne_of_none h1 ha)]; exact st.frame b o h1 h2⟩
theorem lc_imp {el : E} {tg : Tg} {it : I} {c : Eo} {ws : List Nat} {t : L2.St} {H : Hp} {Q : VK} (hw : ∀ i ∈ tg.slots, i ∈ ws) (h : tE X.K C (.comp el tg it c ws) t H Q) :
    tLc (tI X.K C it) (gT X.K tg) (tC X.K C c) (tE X.K C el) ws t H Q := by
  obtain ⟨s, M, r, w, M', hs, hm, e, q⟩ := h
  simp only [evE] at e
  obtain ⟨⟨l, ss⟩, M1, e1, ea⟩ := bind_ok e
  obtain ⟨ls, M2, e2, eb⟩ := bind_ok ea
  cases eb
  clear e ea
  refine ⟨s, M, r, l, ss, M1, hs, hm, e1, evI_src e1, fun r1 H1 J st1 m1 rows hz D hD => ?_⟩
  simp only at e2
  have gr1 := st1.gr hm
  have hDr : D ∉ r1 := fun hr => by obtain ⟨u, z⟩ := m1.there hr; rw [hD] at z; cases z
  generalize hturn : (fun (d : Ev.D) (M2 : Mem) => match asgT tg d (wipeE s ws) with
    | none => Res.no
    | some s1 => (evT C c s1 M2).bind fun b M3 => match b with
      | false => .ok none M3
      | true => (evE C el s1 M3).put.bind fun x M4 => .ok (some x) M4) = turn at e2
  refine ⟨fun i m H2 => m = l.length - i ∧ i ≤ l.length ∧ ∃ r2 M2 acc vs lr, Stp r1 H1 r2 H2 ∧ RM X.K r2 H2 M2 ∧ D ∉ r2 ∧ H2 D = some (.lst vs) ∧ RDs X.K r2 H2 acc vs ∧ SrcOk ss M2 ∧ compL turn ss (l.drop i) M2 = .ok lr M' ∧ acc ++ lr = ls ∧ acc.length ≤ i,
    ⟨l.length, rfl, Nat.zero_le _, r1, M1, [], [], ls, .fresh hD, m1.fresh hD, hDr, upd_same, .nil, evI_src e1, e2, rfl, Nat.le_refl _⟩, ?_⟩
  rintro i m H2 ⟨rfl, hi, r2, M2, acc, vs, lr, st, m2, hD2, hl2, rds, hk, ec, hacc, hai⟩
  obtain ⟨hstop, hgo⟩ := rows r2 H2 M2 st m2 hk
  by_cases hlt : i < l.length
  · right
    obtain ⟨go, step⟩ := hgo i l[i] (List.getElem?_eq_getElem hlt)
    refine ⟨go, fun H' => ∃ r2 M2 acc vs lr, Stp r1 H1 r2 H' ∧ RM X.K r2 H' M2 ∧ D ∉ r2 ∧ H' D = some (.lst vs) ∧ RDs X.K r2 H' acc vs ∧ SrcOk ss M2 ∧ compL turn ss (l.drop (i + 1)) M2 = .ok lr M' ∧ acc ++ lr = ls ∧ acc.length ≤ i + 1, fun H' hN => ⟨l.length - (i + 1), by omega, rfl, hlt, hN⟩, fun x H' hy => ?_⟩
    obtain ⟨sty, my, rdx⟩ := step x H' hy
    rw [List.drop_eq_getElem_cons hlt] at ec
    simp only [compL] at ec
    obtain ⟨o, M3, et, ec⟩ := bind_ok ec
    split at ec
    rotate_left
    · cases ec
    rename_i hk3
    obtain ⟨lr2, M4, er, ec⟩ := bind_ok ec
    cases ec
    rw [← hturn] at et
    simp only at et
    have sty' := st.trans sty
    have gy : Gr r1 H1 r2 H' := sty'.gr m1
    split at et
    · cases et
    rename_i s1 es1
    refine ⟨wipeE s ws, M2, r2, l[i], s1, RS.wipe ((hs.gr gr1).gr gy) ws, my, rdx, es1, fun σ2 rs2 hw2 => ⟨by rw [hw2 ws hw, wipe_wipe], ?_⟩⟩
    obtain ⟨b, M5, eb, et⟩ := bind_ok et
    refine ⟨s1, M2, r2, b, M5, rs2, my, eb, fun r3 H3 b' st3 m3 hb => ?_⟩
    subst hb
    have hlD : H' D = some (.lst vs) := sty.frame D _ hl2 hD2
    have hl3 : H3 D = some (.lst vs) := st3.frame D _ hlD hD2
    have hD3 := notin st3 hlD hD2
    cases b with
    | false =>
      simp only at et
      cases et
      rw [if_neg (by decide)]
      exact ⟨r3, M3, acc, vs, lr2, sty'.trans st3, m3, hD3, hl3, (rds.gr (sty.gr m2)).gr (st3.gr my), hk3, er, hacc, by omega⟩
    | true =>
      simp only at et
      rw [if_pos rfl]
      obtain ⟨dx, M6, ep, et⟩ := bind_ok et
      cases et
      obtain ⟨wx, M7, ex, ep⟩ := put_ok ep
      refine ⟨s1, M5, r3, wx, M7, rs2.gr (st3.gr my), m3, ex, fun r4 H4 y st4 m4 wy => ?_⟩
      obtain ⟨r5, m5, st5, rd5, g5⟩ := put_rep m3 m4 st4 wy ep
      have hl4 : H4 D = some (.lst vs) := st5.frame D _ hl3 hD3
      have hD5 := notin st5 hl3 hD3
      obtain ⟨m6, g6⟩ := hide (vs ++ [y]) m5 hD5 hl4
      refine ⟨vs, hl4, by rw [← rds.length, sizeLine_eq] at *; omega, r5, M3, acc ++ [dx], vs ++ [y], lr2, ((sty'.trans st3).trans st5).hide hD, m6, hD5, upd_same, ?_, hk3, er, by rw [List.append_assoc]; exact hacc, by rw [List.length_append, List.length_singleton]; omega⟩
      exact ((((rds.gr (sty.gr m2)).gr (st3.gr my)).gr (st5.gr m3)).append (.cons rd5 .nil)).gr g6
  · left
    have ei : i = l.length := by omega
    subst ei
    rw [List.drop_length] at ec
    simp only [compL] at ec
    cases ec
    rw [List.append_nil] at hacc
    subst hacc
    refine ⟨hstop, q r2 H2 (.ref D) (st1.trans st) m2 ⟨D, vs, rfl, st1.was hm m1 hD, hl2, hD2, rds⟩⟩
end
end Ev

/-! EvBd: dicts. -/
namespace Ev
open PySem PySem.Spec PyProof.Rows L2
section
variable {K : PySem.W.Frag} {r : List Addr} {H : Hp} {M : Mem}
theorem keyD_rep {d : D} {k : L2.Key} {v : V} (e : keyD d = some k) (h : RD K r H d v) : v = kV k := by
  cases d with
  | int i => cases e; cases h; rfl
  | str x => cases e; cases h; rfl
  | _ => cases e
theorem dlook_rep {k : L2.Key} : ∀ {l : List (L2.Key × D)} {vs : List V}, RDs K r H (l.map (·.2)) vs →
    (∀ d, dLook l k = some d → ∃ v, valV ((l.map (·.1)).zip vs) k = some v ∧ RD K r H d v) ∧ (valV ((l.map (·.1)).zip vs) k).isSome = (dLook l k).isSome
  | [], _, .nil => ⟨fun d h => (nomatch h), rfl⟩
  | p :: l, _, .cons (v := v) (vs := vs) a t => by
    obtain ⟨i1, i2⟩ := dlook_rep (k := k) t
    by_cases c : p.1 = k
    · have e1 : dLook (p :: l) k = some p.2 := by simp [dLook, List.find?_cons, c]
      have e2 : valV (((p :: l).map (·.1)).zip (v :: vs)) k = some v := by
        show valV ((p.1, v) :: (l.map (·.1)).zip vs) k = some v
        rw [valV_pos (p := (p.1, v)) c]
      refine ⟨fun d h => ?_, by rw [e1, e2]; rfl⟩
      rw [e1] at h; cases h
      exact ⟨v, e2, a⟩
    · have e1 : dLook (p :: l) k = dLook l k := by simp [dLook, List.find?_cons, c]
      have e2 : valV (((p :: l).map (·.1)).zip (v :: vs)) k = valV ((l.map (·.1)).zip vs) k := by
        show valV ((p.1, v) :: (l.map (·.1)).zip vs) k = _
        rw [valV_neg (p := (p.1, v)) c]
      rw [e1, e2]
      exact ⟨i1, i2⟩
theorem zip_any {k : L2.Key} : ∀ {l : List (L2.Key × D)} {vs : List V}, RDs K r H (l.map (·.2)) vs → (((l.map (·.1)).zip vs).any fun kv => decide (kv.1 = k)) = l.any fun p => decide (p.1 = k)
  | [], _, .nil => rfl
  | p :: l, _, .cons (v := v) (vs := vs) a t => by
    show (decide (p.1 = k) || (((l.map (·.1)).zip vs).any fun kv => decide (kv.1 = k))) = (decide (p.1 = k) || l.any fun p => decide (p.1 = k))
    rw [zip_any t]
theorem zip_repl {k : L2.Key} {d : D} {u : V} (hu : RD K r H d u) : ∀ {l : List (L2.Key × D)} {vs : List V}, RDs K r H (l.map (·.2)) vs →
    ∃ vs', ((l.map (·.1)).zip vs).map (fun kv => if kv.1 = k then (kv.1, u) else kv) = ((l.map fun p => if p.1 = k then (p.1, d) else p).map (·.1)).zip vs' ∧ RDs K r H ((l.map fun p => if p.1 = k then (p.1, d) else p).map (·.2)) vs'
  | [], _, .nil => ⟨[], rfl, .nil⟩
  | p :: l, _, .cons (v := v) (vs := vs) a t => by
    obtain ⟨vs', h1, h2⟩ := zip_repl (k := k) hu t
    by_cases c : p.1 = k
    · refine ⟨u :: vs', ?_, ?_⟩
      · simp only [List.map_cons, List.zip_cons_cons, if_pos c, h1]
      · simp only [List.map_cons, if_pos c]
        exact .cons hu h2
    · refine ⟨v :: vs', ?_, ?_⟩
      · simp only [List.map_cons, List.zip_cons_cons, if_neg c, h1]
      · simp only [List.map_cons, if_neg c]
        exact .cons a h2
theorem dput_rep {k : L2.Key} {d : D} {u : V} (hu : RD K r H d u) {l : List (L2.Key × D)} {vs : List V} (h : RDs K r H (l.map (·.2)) vs) :
    ∃ vs', putK ((l.map (·.1)).zip vs) k u = ((dPut l k d).map (·.1)).zip vs' ∧ RDs K r H ((dPut l k d).map (·.2)) vs' := by
  unfold putK dPut
  rw [zip_any h]
  split
  · exact zip_repl hu h
  · refine ⟨vs ++ [u], ?_, ?_⟩
    · have hl : (l.map (·.1)).length = vs.length := by rw [List.length_map, ← h.length, List.length_map]
      rw [List.map_append, List.zip_append hl]; rfl
    · rw [List.map_append]
      exact h.append (.cons hu .nil)
theorem at_dct {n : Nat} {a : Addr} {l : List (L2.Key × D)} (m : RM K r H M) (h : M[n]? = some (.dct l)) (hn : r[n]? = some a) : ∃ vs, H a = some (.dK ((l.map (·.1)).zip vs)) ∧ RDs K r H (l.map (·.2)) vs := by
  obtain ⟨a', h1, h2⟩ := m.obj n _ h
  rw [hn] at h1
  cases h1
  exact h2
theorem dwrite {n : Nat} {a : Addr} {l' : List (L2.Key × D)} {kvs : List (L2.Key × V)} {vs' : List V} (m : RM K r H M) (hn : r[n]? = some a) (hH : H a = some (.dK kvs)) (h : RDs K r H (l'.map (·.2)) vs') :
    RM K r (upd H a (.dK ((l'.map (·.1)).zip vs'))) (M.set n (.dct l')) ∧ Stp r H r (upd H a (.dK ((l'.map (·.1)).zip vs'))) := by
  have g : Gr r H r (upd H a (.dK ((l'.map (·.1)).zip vs'))) := ⟨⟨fun b xs hb => by rw [upd_ne (fun z => by subst z; rw [hH] at hb; cases hb)]; exact hb, fun b o u hb => by rw [upd_ne (fun z => by subst z; rw [hH] at hb; cases hb)]; exact hb⟩, fun _ _ h => h⟩
  exact m.write hn ⟨vs', upd_same, h.gr g⟩
theorem keyD_gr {d : D} {k : L2.Key} (e : keyD d = some k) : d.flat = true := by
  cases d with
  | int i => rfl
  | str x => rfl
  | _ => cases e
end
section
variable {X : Cx} {C : Cl} {T : Nm} {pos : Pos}
theorem nosl {i : Expr} (h : plainE i = true) : NoSl i := by
  intro ov iv
  cases i <;> first | rfl | cases h
theorem x_dget (F : Fit T C X) {o i : E} {po pi : Expr} (hp : plainE pi = true) (ho : PE X po (tE X.K C o)) (hi : PE X pi (tE X.K C i)) : PE X (.Subscript po pi pos) (tE X.K C (.dget o i)) :=
  (pe_dget (by have := F.un; omega) ho hi (nosl hp)).imp fun t H Q h => by
    obtain ⟨s, M, r, w, M', hs, hm, e, q⟩ := h
    simp only [evE] at e
    obtain ⟨x, M1, e1, ea⟩ := bind_ok e
    obtain ⟨y, M2, e2, eb⟩ := bind_ok ea
    refine ⟨s, M, r, x, M1, hs, hm, e1, fun r1 H1 v1 st1 m1 w1 => ?_⟩
    refine ⟨s, M1, r1, y, M2, hs.gr (st1.gr hm), m1, e2, fun r2 H2 v2 st2 m2 w2 => ?_⟩
    split at eb
    · rename_i n d
      split at eb
      · rename_i l k hl hk
        split at eb
        · rename_i u hu
          cases eb
          cases w1 with
          | ref hn =>
            have hn2 := (st2.gr m1).p _ _ hn
            obtain ⟨vs, hv, rds⟩ := at_dct m2 hl hn2
            obtain ⟨v, hv1, rd⟩ := (dlook_rep (k := k) rds).1 u hu
            have ek := keyD_rep hk w2
            subst ek
            refine ⟨_, v, rfl, ?_, q r2 H2 v (st1.trans st2) m2 rd⟩
            rw [← hv1]
            exact DGet.k hv
        · cases eb
      · cases eb
    · cases eb
theorem x_din (F : Fit T C X) {neg : Bool} {x o : E} {px po : Expr} (hp : plainE po = true) (hx : PE X px (tE X.K C x)) (ho : PE X po (tE X.K C o)) : Ex X C (.din neg x o) (.Compare px [if neg = true then .NotIn else .In] [po] pos) := by
  have hu : X.A.units + 1 < cLine := by have := F.un; omega
  have main : ∀ {t : L2.St} {H : Hp} {Q : VK}, tE X.K C (.din neg x o) t H Q → tE X.K C x t H fun y H1 => tE X.K C o t H1 fun z H2 => ∃ a ov, z = .ref a ∧ DGet H2 a y ov ∧ Q (.bl (if neg = true then !ov.isSome else ov.isSome)) H2 := fun {t H Q} h => by
    obtain ⟨s, M, r, w, M', hs, hm, e, q⟩ := h
    simp only [evE] at e
    obtain ⟨y, M1, e1, ea⟩ := bind_ok e
    obtain ⟨z, M2, e2, eb⟩ := bind_ok ea
    refine ⟨s, M, r, y, M1, hs, hm, e1, fun r1 H1 v1 st1 m1 w1 => ?_⟩
    refine ⟨s, M1, r1, z, M2, hs.gr (st1.gr hm), m1, e2, fun r2 H2 v2 st2 m2 w2 => ?_⟩
    split at eb
    · rename_i n d
      split at eb
      · rename_i l k hl hk
        cases eb
        cases w2 with
        | ref hn =>
          obtain ⟨vs, hv, rds⟩ := at_dct m2 hl hn
          have i2 := (dlook_rep (k := k) rds).2
          have ek := keyD_rep hk w1
          subst ek
          refine ⟨_, _, rfl, DGet.k hv, ?_⟩
          rw [i2]
          exact q r2 H2 _ (st1.trans st2) m2 (.bl _)
      · cases eb
    · cases eb
  cases neg with
  | false => exact ⟨(pe_cmp (pc_din hu hx ho) (plain_mark hp)).imp fun t H Q h => main h, (pt_cmp (pc_din hu hx ho) (plain_mark hp)).imp fun t H Q h => main (tB_tE h), fun _ _ _ z => by cases z⟩
  | true => exact ⟨(pe_cmp (pc_dnotin hu hx ho) (plain_mark hp)).imp fun t H Q h => main h, (pt_cmp (pc_dnotin hu hx ho) (plain_mark hp)).imp fun t H Q h => main (tB_tE h), fun _ _ _ z => by cases z⟩
theorem x_dnew : PE X (.Dict [] [] pos) (tE X.K C .dnew) :=
  pe_dnewK.imp fun t H Q h p hp => by
    obtain ⟨s, M, r, w, M', hs, hm, e, q⟩ := h
    simp only [evE] at e
    cases e
    have hnr : p ∉ r := fun hin => by obtain ⟨u, hu⟩ := hm.there hin; rw [hp] at hu; cases hu
    have g : Gr r H (r ++ [p]) (upd H p (.dK [])) := ⟨⟨fun b xs hb => by rw [upd_ne (fun z => by subst z; rw [hp] at hb; cases hb)]; exact hb, fun b o u hb => by rw [upd_ne (fun z => by subst z; rw [hp] at hb; cases hb)]; exact hb⟩, fun n x hx => by rw [List.getElem?_append_left (List.getElem?_eq_some_iff.mp hx).1]; exact hx⟩
    have ea : (r ++ [p])[M.length]? = some p := by rw [← hm.len, List.getElem?_append_right (Nat.le_refl _)]; simp
    refine q (r ++ [p]) (upd H p (.dK [])) (.ref p) ⟨List.prefix_append _ _, fun x hx => ?_, fun a o h1 h2 => ?_⟩ ⟨by simp [hm.len], ?_, fun n x hx => ?_⟩ (.ref ea)
    · rcases List.mem_append.mp hx with h | h
      · exact .inl h
      · rw [List.mem_singleton.mp h]; exact .inr hp
    · rw [upd_ne (fun z => by subst z; rw [hp] at h1; cases h1)]; exact h1
    · refine List.nodup_append.mpr ⟨hm.nd, by simp, fun x hx b hb e => ?_⟩
      rw [List.mem_singleton.mp hb] at e
      subst e; exact hnr hx
    · rcases Nat.lt_or_ge n M.length with c | c
      · rw [List.getElem?_append_left c] at hx
        obtain ⟨a, h1, h2⟩ := hm.obj n x hx
        have hne : a ≠ p := fun z => by subst z; exact hnr (List.mem_of_getElem? h1)
        exact ⟨a, by rw [List.getElem?_append_left (List.getElem?_eq_some_iff.mp h1).1]; exact h1, h2.gr g (upd_ne hne)⟩
      · rw [List.getElem?_append_right c] at hx
        have hz : n - M.length = 0 := by
          have := (List.getElem?_eq_some_iff.mp hx).1
          simpa using this
        rw [hz] at hx
        cases hx
        rw [show n = M.length by omega]
        exact ⟨p, ea, [], upd_same, .nil⟩
end
end Ev

/-! EvBe: sorted of a dict of ints. -/
namespace Ev
open PySem PySem.Spec PySem.Calls PyProof.Rows L2 PySem.W
theorem keys_ints {w : World} {prog : Program} {kvs : List (Key × Value)} : ∀ {ns : List Int} {vs : List Value} (j : Nat), kvs.map (·.1) = (ns.map Sum.inl : List Key) → j ≤ ns.length → vs.length = ns.length - j → (∀ i v, vs[i]? = some v → ∃ k x, kvs[j + i]? = some (k, x) ∧ (mixKind prog w).is k v = true) → IntsAre vs (ns.drop j)
  | ns, [], j, hk, hj, hl, h => by
    have e : ns.drop j = [] := List.drop_eq_nil_of_le (by simp at hl; omega)
    rw [e]; exact .nil
  | ns, v :: vs, j, hk, hj, hl, h => by
    have jl : j < ns.length := by simp at hl; omega
    obtain ⟨k, x, e1, e2⟩ := h 0 v rfl
    rw [Nat.add_zero] at e1
    have e3 : (kvs.map (·.1))[j]? = some k := by rw [List.getElem?_map, e1]; rfl
    rw [hk, List.getElem?_map, List.getElem?_eq_getElem jl] at e3
    cases e3
    obtain ⟨t, rfl⟩ : ∃ t, v = Value.int ns[j] t := by
      rcases keyIs_shape (show keyIs (Sum.inl ns[j]) v = true from e2) with ⟨i, t, a, b⟩ | ⟨x, t, a, b⟩
      · cases a; exact ⟨t, b⟩
      · cases a
    rw [List.drop_eq_getElem_cons jl]
    refine .cons _ t (keys_ints (w := w) (prog := prog) (kvs := kvs) (ns := ns) (vs := vs) (j + 1) hk jl (by simp at hl; omega) fun i v hv => ?_)
    have := h (i + 1) v (by simpa using hv)
    rw [show j + 1 + i = j + (i + 1) by omega]
    exact this
section
variable {prog : Program} {w : World} {A : Around} {E : Value → Shared → Prop} {s : Shared}
/-- the keys of a dict, in a new list; there are more places then -/
theorem collect_dct {d : Addr} {kvs : List (Key × Value)} {ep : Nat} {Q : List Value → Shared → Prop} (lo : (d == sysModules) = false) (hh : A.handled = none) (hd : s.heap.DictAt (mixKind prog w) d kvs ep) (hn : kvs.length ≤ sizeLine)
    (h : ∀ (h' : Heap) (tk : Nat) (acc : Array Value), s.heap.objs.size ≤ h'.objs.size → (∀ b o, s.heap.get? b = some o → h'.get? b = some o) → ItemsOf (fun i v => ∃ k x, kvs[i]? = some (k, x) ∧ (mixKind prog w).is k v = true) acc kvs.length → Q acc.toList { s with heap := h', toks := tk }) :
    wpAny (model prog w) A (collect (.ref d)) Q E s := by
  have K := kdl_dict (prog := prog) (w := w) (knd := mixKind prog w) (kvs := kvs) (ep := ep) lo
  have dl := (K.there _ hd).1
  unfold collect
  refine wpAny_bind (wpAny_runValue (codeAny_builtin entry_proto_collect' ?_))
  rw [Around.under_plainId PySem.F.plain_proto_collect _]
  show wpAny _ A.in1 (do again (.builtin "list.__iadd__" ⟨[← newList [], .ref d], []⟩)) _ _ _
  refine wpAny_bind (wpAny_newList (wpAny_pure ⟨Code.quiet_builtin _ (by decide +kernel), codeAny_builtin entry_list_iadd' ?_⟩))
  rw [Around.under_plainId PySem.F.plain_list_iadd _]
  show wpAny _ A.in1 (Builtin.List.listExtendWith (.ref s.heap.objs.size) (.ref d) (.ref s.heap.objs.size)) _ _ { s with heap := Heap.push s.heap (seqObj "list" #[] 0) }
  have g0 : ({ s with heap := Heap.push s.heap (seqObj "list" #[] 0) } : Shared).heap.get? s.heap.objs.size = some (seqObj "list" #[] 0) := Heap.get?_push_size _ rfl
  have fin : ∀ (h' : Heap) (tk : Nat) (acc : Array Value) (c : Nat), (∀ b o, b ≠ s.heap.objs.size → (Heap.push s.heap (seqObj "list" #[] 0)).get? b = some o → h'.get? b = some o) → h'.get? s.heap.objs.size = some { cls := .type "list", dict := none, data := .seq acc c, slots := #[] } → ItemsOf (fun i v => ∃ k x, kvs[i]? = some (k, x) ∧ (mixKind prog w).is k v = true) acc kvs.length →
      wpAny (model prog w) A (do
      let o ← load s.heap.objs.size
      (match o.data with
      | .seq xs _ => pure xs.toList
      | _ => unsupported "internal:collect")) Q E { s with heap := h', toks := tk } := fun h' tk acc c k g i => by
    refine wpAny_bind (wpAny_load g ?_)
    exact wpAny_pure (h h' tk acc (Nat.le_of_lt (Heap.lt_size g)) (fun b o e => k b o (Nat.ne_of_lt (Heap.lt_size e)) (Heap.get?_push_of_some _ e)) i)
  refine wpAny_mono (kdl_extend (A := A) (R := fun q s' => ∃ (h' : Heap) (tk : Nat) (acc : Array Value) (c : Nat), q = .ok (.ret (.ref s.heap.objs.size)) ∧ s' = { s with heap := h', toks := tk } ∧ (∀ b o, b ≠ s.heap.objs.size → (Heap.push s.heap (seqObj "list" #[] 0)).get? b = some o → h'.get? b = some o) ∧ h'.get? s.heap.objs.size = some { cls := .type "list", dict := none, data := .seq acc c, slots := #[] } ∧ ItemsOf (fun i v => ∃ k x, kvs[i]? = some (k, x) ∧ (mixKind prog w).is k v = true) acc kvs.length)
    K hh (K.keep _ _ hd fun b _ o e => Heap.get?_push_of_some _ e) s.heap.objs.size (Nat.ne_of_gt dl) (Nat.ne_of_gt dl) (.ref s.heap.objs.size) 0 g0 (fun h' tk acc c k g i => ⟨h', tk, acc, c, rfl, rfl, k, g, i⟩) hn) (fun r s' x => ?_) fun e s' x => ?_
  · cases r with
    | done f =>
      obtain ⟨h', tk, acc, c, e, rfl, k, g, i⟩ := x
      cases e
      exact fin h' tk acc c k g i
    | again c1 =>
      refine ⟨x.1, codeAny_mono x.2 fun q s2 y => ?_⟩
      obtain ⟨h', tk, acc, c, rfl, rfl, k, g, i⟩ := y
      exact fin h' tk acc c k g i
  · obtain ⟨_, _, _, _, e', _⟩ := x
    cases e'
theorem sorted_dct {d : Addr} {kvs : List (Key × Value)} {ep : Nat} {ns : List Int} {Q : Value → Shared → Prop} (lo : (d == sysModules) = false) (hh : A.handled = none) (hd : s.heap.DictAt (mixKind prog w) d kvs ep) (hk : kvs.map (·.1) = ns.map Sum.inl) (hn : kvs.length ≤ sizeLine)
    (h : ∀ (h' : Heap) (tk : Nat) (vs : List Value) (out : Array Value) (ns' : List Int), s.heap.objs.size ≤ h'.objs.size → (∀ b o, s.heap.get? b = some o → h'.get? b = some o) → IntsAre out.toList ns' → ns'.Perm ns → ns'.Pairwise (· ≤ ·) →
      Q (.ref h'.objs.size) { s with heap := sortedHeap (h'.push (seqObj "list" vs.toArray 0)) h'.objs.size vs out, toks := tk }) :
    wpAny (model prog w) A (call (.builtin "sorted") [.ref d]) Q E s := by
  refine Calls.call_function_entry kind_sorted plain_sorted entry_sorted (args_sorted1 _) ?_
  rw [Builtin.«sorted»]; refine wpAny_bind (m := checkCount "sorted" 1 1 _) (wpAny_pure ?_)
  refine wpAny_bind (collect_dct (A := A.in1) lo hh hd hn fun h' tk acc hle hkp hacc => ?_)
  have hl : acc.toList.length = kvs.length := by rw [Array.length_toList]; exact hacc.1
  have hkl : kvs.length = ns.length := by have := congrArg List.length hk; rwa [List.length_map, List.length_map] at this
  have hI : IntsAre acc.toList ns := by
    have z := keys_ints (w := w) (prog := prog) (kvs := kvs) (ns := ns) (vs := acc.toList) 0 hk (Nat.zero_le _) (by omega) fun i v hv => by
      rw [Nat.zero_add]
      exact hacc.2 i v (by rw [← Array.getElem?_toList]; exact hv)
    rwa [List.drop_zero] at z
  refine wpAny_bind (wpAny_newList ?_ (by rw [hl]; exact hn))
  have z2 : (h'.push (seqObj "list" acc.toList.toArray 0)).get? h'.objs.size = some (seqObj "list" acc.toList.toArray 0) := Heap.get?_push_size _ rfl
  show wpAny _ _ _ _ _ { s with heap := h'.push (seqObj "list" acc.toList.toArray 0), toks := tk }
  refine wpAny_bind (wpAny_holding (wpAny_call_entry slot_list_sort ⟨_, z2, rfl⟩ entry_list_sort (list_sort_treeAny z2 hI (by rw [hl]; exact hn) fun out ns' a1 a2 a3 => ⟨_, rfl, wpAny_pure ⟨_, rfl, h h' tk acc.toList out ns' hle hkp a1 a2 a3⟩⟩) (args_list_sort _)))
end
section
variable {X : Cx}
theorem cr_sortedDct (hc : X.calm = true) : CallR X (.builtin "sorted") (fun vs H Q => ∃ (a : Addr) (kvs : List (Key × V)) (ns : List Int), vs = [V.ref a] ∧ H a = some (.dK kvs) ∧ kvs.map (·.1) = ns.map Sum.inl ∧ ∀ p, H p = none → Q (.ref p) (upd H p (.lst ((sortI ns).map V.int)))) := by
  intro pins s σ H vs us Q I rv h
  obtain ⟨a, kvs, ns, rfl, ha, hk, q⟩ := h
  obtain ⟨z, lo, ws, rel, dd⟩ := dk_of I.hok ha
  obtain ⟨ep, hat⟩ := dd.dictAt
  rw [Vals.ref1 rv]
  have ek : ws.map (·.1) = kvs.map (·.1) := by
    have : ∀ {l : List (Key × V)} {m : List (Key × Value)}, KV l m → m.map (·.1) = l.map (·.1) := by
      intro l m r
      induction r with
      | nil => rfl
      | cons h t ih => rw [List.map_cons, List.map_cons, ih, h.1]
    exact this rel
  have el : ws.length = kvs.length := by have := congrArg List.length ek; rwa [List.length_map, List.length_map] at this
  have nl : ns.length = kvs.length := by have := congrArg List.length hk; rw [List.length_map, List.length_map] at this; omega
  refine sorted_dct lo (I.ok.hd hc) hat (ek.trans hk) (by rw [el]; exact z) fun h' tk vs out ns' hlt hkp h1 h2 h3 => ?_
  have e := sorted_eq (h2.trans (sortI_perm ns).symm) h3 (sortI_sorted ns)
  subst e
  have z2 : (h'.push (seqObj "list" vs.toArray 0)).get? h'.objs.size = some (seqObj "list" vs.toArray 0) := Heap.get?_push_size _ rfl
  obtain ⟨eF, heF⟩ := PyProof.Rows.sortedHeap_at (vs := vs) (out := out) z2
  have kS : ∀ b o, s.heap.get? b = some o → (sortedHeap (h'.push (seqObj "list" vs.toArray 0)) h'.objs.size vs out).get? b = some o := fun b o e => by
    have e' := hkp b o e
    have hb := Heap.lt_size e'
    rw [PyProof.Rows.sortedHeap_old (Nat.ne_of_lt hb) (by rw [size_push']; exact Nat.lt_succ_of_lt hb)]
    exact Heap.get?_push_of_some _ e'
  have hlen : ((sortI ns).map V.int).length ≤ sizeLine := by
    rw [List.length_map, (sortI_perm ns).length_eq, nl]; exact z
  exact ⟨.ref _, upd H h'.objs.size (.lst ((sortI ns).map V.int)), I.laid (t' := tk) kS hlt ⟨hlen, out.toList, eF, vals_of_ints h1, by simpa using heF⟩, rfl, q _ (I.hok.fresh hlt)⟩
end
section
theorem keysI_rep : ∀ {l : List (Key × D)} {ns : List Int}, keysI l = some ns → l.map (·.1) = ns.map Sum.inl
  | [], ns, h => by cases h; rfl
  | (.inl i, d) :: r, ns, h => by
    simp only [keysI, Option.map_eq_some_iff] at h
    obtain ⟨ms, h1, rfl⟩ := h
    rw [List.map_cons, List.map_cons, keysI_rep h1]
  | (.inr x, d) :: r, ns, h => by simp [keysI] at h
variable {X : Cx} {C : Cl} {T : Nm} {pos p : Pos} {x : Str}
theorem call_dsE (hc : X.calm = true) : CallR X (.builtin "sorted") (rC1 X.K dsV) := by
  intro pins s σ H vs us Q I rv h
  obtain ⟨x, rfl, H0, r, M, a, w, m, hb0, ha, e, q⟩ := h
  unfold dsV at e
  split at e
  · rename_i n
    split at e
    · rename_i l hl
      obtain ⟨ns, hk, rfl⟩ := Option.map_eq_some_iff.mp e
      cases ha with
      | ref hn =>
        obtain ⟨ws, hv, rds⟩ := at_dct m hl hn
        have hz : ((l.map (·.1)).zip ws).map (·.1) = ns.map Sum.inl := by
          rw [List.map_fst_zip (by rw [List.length_map, ← rds.length, List.length_map]; exact Nat.le_refl _), keysI_rep hk]
        exact cr_sortedDct hc pins s σ H _ us Q I rv ⟨_, _, ns, rfl, hv, hz, fun p' hp => new_list m hb0 (.ints _) hp q⟩
    · cases e
  · cases e
theorem x_dsort {a : E} {pa : Expr} (F : Fit T C X) (hp : plainE pa = true) (hx : T.bi "sorted" x = true) (ha : PE X pa (tE X.K C a)) : PE X (.Call (.Name x p) [pa] [] pos) (tE X.K C (.dsort a)) := by
  obtain ⟨rfl, hg, hm⟩ := F.bi hx
  have A := pa_cons ha pa_nil (plain_star hp)
  have g : PE X (.Call (.Name "sorted" p) [pa] [] pos) (tCB (rC1 X.K dsV) (tCons (tE X.K C a) tNil)) :=
    pe_callB (call_dsE (X := X) F.calm) hg hm (by decide +kernel) A (he := plain_star hp) (hpl := rfl)
  exact g.imp fun t H Q h => c1 (f := dsV) (ev1 fun _ _ => by simp only [evE]) (fun _ _ _ h => ⟨_, rfl, h⟩) h
end
end Ev

/-! EvBf: rows the other way about, sets of a row, dicts with one thing, texts of numbers, min of three, a row or another one. -/
namespace Ev
open PySem PySem.Spec PySem.Calls PyProof.Rows L2
/-! ### [::-1] -/
theorem fm_congr {α β : Type} {f g : α → Option β} : ∀ {l : List α}, (∀ x ∈ l, f x = g x) → l.filterMap f = l.filterMap g
  | [], _ => rfl
  | a :: l, h => by rw [List.filterMap_cons, List.filterMap_cons, h a (List.mem_cons_self ..), fm_congr fun x hx => h x (List.mem_cons_of_mem _ hx)]
section
variable {prog : Program} {w : World} {A : Around} {E : Value → Shared → Prop} {s : Shared}
theorem applied_rev {sl : Addr} {tk : Tok} {n : Nat} {Q : Int × Int × Nat → Shared → Prop} (hs : s.heap.IsSliceOf sl .none .none (.int (-1) tk)) (h : Q ((n : Int) - 1, -1, n) s) : wpAny (model prog w) A (Builtin.Slice.sliceApplied (.ref sl) (pure (n : Int))) Q E s := by
  obtain ⟨os, hos, hcs, hds⟩ := id hs
  unfold Builtin.Slice.sliceApplied Builtin.Slice.sliceFields
  refine wpAny_bind (wpAny_bind (wpAny_field hos hds (x := .none) rfl (wpAny_bind (wpAny_field hos hds (x := .none) rfl (wpAny_bind (wpAny_field hos hds (x := .int (-1) tk) rfl (wpAny_pure ?_)))))))
  refine wpAny_bind (PyProof.Rows.slicePart_int ?_)
  show wpAny _ _ (if ((-1 : Int) == 0) = true then _ else _) _ _ s
  rw [if_neg (by decide)]
  refine wpAny_bind (PyProof.Rows.slicePart_none (wpAny_bind (PyProof.Rows.slicePart_none (wpAny_bind (wpAny_pure ?_)))))
  have e : (Builtin.Slice.sliceAdjust none none (-1) (n : Int)) = ((n : Int) - 1, -1) := rfl
  show wpAny _ _ (match Builtin.Slice.sliceAdjust none none (-1) (n : Int) with | (lo, hi) => pure (lo, (-1 : Int), Builtin.Slice.slicePlaces lo hi (-1))) _ _ s
  rw [e]
  have e2 : Builtin.Slice.slicePlaces ((n : Int) - 1) (-1) (-1) = n := by
    unfold Builtin.Slice.slicePlaces
    have h1 : ¬ ((-1 : Int) > 0) := by omega
    simp only [h1, if_false]
    by_cases hn : (n : Int) - 1 > -1
    · simp only [hn, if_true]
      have : ((n : Int) - 1 - -1 - 1) / (- -1) + 1 = n := by
        have : (- -1 : Int) = 1 := rfl
        rw [this, Int.ediv_one]; omega
      rw [this]; rfl
    · simp only [hn, if_false]
      have : n = 0 := by omega
      subst this; rfl
  show wpAny _ _ (pure ((n : Int) - 1, (-1 : Int), Builtin.Slice.slicePlaces ((n : Int) - 1) (-1) (-1))) _ _ s
  rw [e2]
  exact wpAny_pure h
theorem pick_rev (xs : Array Value) : ((List.range xs.size).filterMap fun (m : Nat) => xs[((xs.size : Int) - 1 + (m : Int) * -1).toNat]?).toArray = xs.toList.reverse.toArray := by
  congr 1
  have e : ((List.range xs.size).filterMap fun (m : Nat) => xs[((xs.size : Int) - 1 + (m : Int) * -1).toNat]?) = (List.range xs.size).filterMap fun m => xs.toList.reverse[m]? := by
    refine fm_congr fun m hm => ?_
    have hm := List.mem_range.mp hm
    have e1 : ((xs.size : Int) - 1 + (m : Int) * -1).toNat = xs.size - 1 - m := by omega
    rw [e1, List.getElem?_reverse (by simpa using hm), Array.length_toList, Array.getElem?_toList]
  rw [e]
  have : ∀ l : List Value, (List.range l.length).filterMap (fun m => l[m]?) = l := by
    intro l
    apply List.ext_getElem?
    have g : ∀ n, n ≤ l.length → (List.range n).filterMap (fun m => l[m]?) = l.take n := by
      intro n
      induction n with
      | zero => intro _; simp
      | succ n ih =>
        intro h
        rw [List.range_succ, List.filterMap_append, ih (by omega), List.take_add_one, List.getElem?_eq_getElem (by omega : n < l.length)]
        simp [List.filterMap_cons, List.getElem?_eq_getElem (by omega : n < l.length)]
    intro i
    rw [g _ (Nat.le_refl _), List.take_length]
  have z := this xs.toList.reverse
  rw [List.length_reverse, Array.length_toList] at z
  exact z
theorem getItem_tuple_rev {t sl : Addr} {items : Array Value} {tk : Tok} {Q : Value → Shared → Prop} (ht : IsTup s.heap t items) (hs : s.heap.IsSliceOf sl .none .none (.int (-1) tk))
    (h : Q (.ref s.heap.objs.size) { s with heap := s.heap.push { cls := .type "tuple", data := .seq items.toList.reverse.toArray } }) (hsz : items.size ≤ sizeLine) : wpAny (model prog w) A (getItem (.ref t) (.ref sl)) Q E s := by
  have htake : sizeOk (.seq items.toList.reverse.toArray) := by
    show items.toList.reverse.toArray.size ≤ sizeLine
    rw [List.size_toArray, List.length_reverse, Array.length_toList]; exact hsz
  obtain ⟨os, hos, hcs, hds⟩ := id hs
  have hTs : s.TypeIs (.ref sl) "slice" := ⟨os, hos, hcs⟩
  unfold getItem
  try with_reducible refine wpAny_holding ?_
  first | refine wpAny_bind (wpAny_pure ?_) | skip
  refine wpAny_bind (wpAny_sequenceKey ht.typeIs (by decide) ?_)
  refine wpAny_bind (wpAny_callSpecial?_slot (name := Str.ofString "__getitem__") ht.typeIs PyProof.Rows.slot_tuple_getitem
    (wpAny_call_entry PyProof.Rows.slot_tuple_getitem ht.typeIs entry_tuple_getitem ?_ (args_tuple_getitem _ _)))
  show wpAny _ _ (Builtin.Tuple.tupleItemsOf (.ref t) >>= _) _ _ s
  refine wpAny_bind (tupleItemsOf_ ht ?_)
  refine wpAny_bind (wpAny_typeOf hTs ?_)
  rw [if_pos (by decide)]
  refine wpAny_bind (applied_rev hs ?_)
  show wpAny _ _ (if (((items.size : Int) - 1) == 0 && (-1 : Int) == 1 && items.size == items.size) = true then _ else _) _ _ s
  rw [if_neg (by simp), pick_rev]
  first
    | exact wpAny_bind (m := Builtin.Tuple.tupleExact _) (wpAny_newObj_type (wpAny_pure ⟨_, rfl, wpAny_pure h⟩) htake)
    | exact wpAny_bind (m := Builtin.Tuple.tupleExact _) (wpAny_newObj_type (wpAny_bind (wpAny_pure (wpAny_pure ⟨_, rfl, wpAny_pure h⟩))) htake)
    | exact wpAny_bind (wpAny_bind (m := Builtin.Tuple.tupleExact _) (wpAny_newObj_type (wpAny_pure (wpAny_pure ⟨_, rfl, wpAny_pure h⟩)) htake))
    | exact wpAny_bind (wpAny_bind (m := Builtin.Tuple.tupleExact _) (wpAny_newObj_type (wpAny_pure ⟨_, rfl, wpAny_pure h⟩) htake))
end
section
variable {X : Cx} {C : Cl} {T : Nm} {pos p p1 p2 p3 : Pos}
theorem vals_rev {xs : List V} {us : List Value} (r : Vals xs us) : Vals xs.reverse us.reverse := by
  induction r with
  | nil => exact .nil
  | cons a t ih => rw [List.reverse_cons, List.reverse_cons]; exact ih.append (.cons a .nil)
theorem RDs.rev {K : PySem.W.Frag} {r : List Addr} {H : Hp} : ∀ {l : List D} {vs : List V}, RDs K r H l vs → RDs K r H l.reverse vs.reverse
  | _, _, .nil => .nil
  | _, _, .cons a t => by rw [List.reverse_cons, List.reverse_cons]; exact (RDs.rev t).append (.cons a .nil)
def tRevX (K : PySem.W.Frag) (te : TE) : TE := fun σ H Q => te σ H fun x H1 => ∃ a xs, x = .ref a ∧ ((SqL K H1 a xs ∧ ∀ p, H1 p = none → Q (.ref p) (upd H1 p (.lst xs.reverse))) ∨ (SqT K H1 a xs ∧ newT xs.reverse Q H1))
theorem pe_revX {e : Expr} {te : TE} {k : Nat} (he : PE X e te) : PE X (.Subscript e (.Slice none none (some (.UnaryOp .USub (.Constant (.int 1) k p1) p2)) p3) pos) (tRevX X.K te) := by
  refine ⟨fun pins s σ H Q I h => ?_⟩
  refine Subscript_ (thn (he.run pins s σ H _ I h) fun v s1 ⟨x, H1, I1, r1, q1⟩ => ?_)
  obtain ⟨a, xs, ex, q⟩ := q1
  subst ex
  cases r1
  have hst : PO X (some (.UnaryOp .USub (.Constant (.int 1) k p1) p2)) (tPart (tUn (rU fun i => .int (-i)) (L2.tC (.int 1)))) := po_some (pe_un un_neg pe_int)
  refine wpAny_Slice (thn (po_none.run pins s1 σ H1 (fun o H2 => o = none ∧ H2 = H1) I1 ⟨rfl, rfl⟩) fun vl s2 ⟨l, H2, I2, pl, el, e2⟩ => ?_)
  subst el e2
  refine thn (po_none.run pins s2 σ H2 (fun o H3 => o = none ∧ H3 = H2) I2 ⟨rfl, rfl⟩) fun vu s3 ⟨u, H3, I3, pu, eu, e3⟩ => ?_
  subst eu e3
  refine thn (hst.run pins s3 σ H3 (fun o H4 => o = some (-1) ∧ H4 = H3) I3 ⟨1, rfl, -1, rfl, rfl, rfl⟩) fun vs s4 ⟨o, H4, I4, ps, eo, e4⟩ => ?_
  subst eo e4
  have I5 : Inv X pins σ H4 { s4 with heap := s4.heap.push { cls := .type "slice", data := .fields #[vl, vu, vs] } } := I4.kept (t' := s4.toks) fun b ob q => Heap.get?_push_of_some _ q
  show wpAny (model X.prog X.w) X.A (subscriptTail e (.Slice none none (some (.UnaryOp .USub (.Constant (.int 1) k p1) p2)) p3) (.ref a) (.ref s4.heap.objs.size)) (EP X pins σ Q) X.xe { s4 with heap := s4.heap.push { cls := .type "slice", data := .fields #[vl, vu, vs] } }
  rcases q with ⟨hx, q⟩ | ⟨hx, q⟩
  · obtain ⟨its, r, ht, hz⟩ := I5.list hx
    have hlen := r.length
    refine tail_any (ops := [.ref a, .ref s4.heap.objs.size]) ht.isList.typeIs (PySem.slot_list_getitem.lookup) ?_ (by with_unfolding_all rfl)
    refine wpAny_getItem_list_slice ht.isList (Heap.IsSliceOf.new _ vl vu vs) pl pu ps (by decide) ?_ (by rw [List.size_toArray]; omega)
    rw [PySem.W.krv_pick]
    refine ⟨.ref _, _, I5.laid (t' := s4.toks) (o := .lst xs.reverse) (fun b ob q => Heap.get?_push_of_some _ q) (Nat.le_refl _) ?_, rfl, q _ (I5.hok.fresh (Nat.le_refl _))⟩
    exact ⟨by rw [List.length_reverse]; exact hz, _, 0, vals_rev r, Heap.get?_push_size _ rfl⟩
  · obtain ⟨its, r, ht, hz⟩ := I5.tuple hx
    have hlen : its.toArray.size = xs.length := by rw [List.size_toArray]; exact r.length.symm
    cases pl
    cases pu
    cases ps with
    | int _ tk =>
      refine tail_any (ops := [.ref a, .ref s4.heap.objs.size]) ht.typeIs (PyProof.Rows.slot_tuple_getitem.lookup) ?_ (by with_unfolding_all rfl)
      refine getItem_tuple_rev ht (Heap.IsSliceOf.new _ .none .none (.int (-1) tk)) ?_ (by rw [hlen]; exact hz)
      exact gotT I5 (vals_rev r) (by rw [List.length_reverse]; exact hz) q
theorem x_rev {a : E} {pa : Expr} {k : Nat} (ha : PE X pa (tE X.K C a)) : PE X (.Subscript pa (.Slice none none (some (.UnaryOp .USub (.Constant (.int 1) k p1) p2)) p3) pos) (tE X.K C (.rev a)) := (pe_revX ha).imp fun t H Q h => by
  obtain ⟨s, M, r, w, M', hs, hm, e, q⟩ := h
  simp only [evE] at e
  obtain ⟨x, M1, e1, ea⟩ := bind_ok e
  obtain ⟨e3, rfl⟩ := opt_ok ea
  refine ⟨s, M, r, x, M', hs, hm, e1, fun r1 H1 v1 st1 m1 w1 => ?_⟩
  have q' : ∀ r' H' v, Stp r1 H1 r' H' → RM X.K r' H' M' → RW X.K H r' H' w v → Q v H' := fun r' H' v st m' w' => q r' H' v (st1.trans st) m' w'
  unfold revW at e3
  cases ht : asT x with
  | some l =>
    rw [ht] at e3
    cases e3
    obtain ⟨p, vs, h1, h2, h3⟩ := asT_rep w1 ht
    exact ⟨p, vs, h1, .inr ⟨h2.sq, fun p' o hp hd => new_tup m1 h3.rev hp hd q'⟩⟩
  | none =>
    rw [ht] at e3
    obtain ⟨l, hl, rfl⟩ := Option.map_eq_some_iff.mp e3
    obtain ⟨p, vs, h1, h2, h3⟩ := asL_rep m1 w1 hl
    exact ⟨p, vs, h1, .inl ⟨h2, fun p' hp => new_list m1 (fun p hp => st1.was hm m1 hp) h3.rev hp q'⟩⟩
end
end Ev

/-! EvBg: len(set(..)), sorted(set(..)). -/
namespace Ev
open PySem PySem.Spec PySem.Calls PyProof.Rows L2
section
variable {α : Type} [DecidableEq α]
theorem nub_cons {a : α} {r : List α} : nub (a :: r) = if a ∈ r then nub r else a :: nub r := by rw [nub]
theorem mem_nub {a : α} : ∀ {l : List α}, a ∈ nub l ↔ a ∈ l
  | [] => Iff.rfl
  | b :: r => by
    unfold nub
    split
    · rename_i h
      rw [mem_nub, List.mem_cons]
      exact ⟨.inr, fun q => q.elim (fun e => e ▸ h) id⟩
    · rw [List.mem_cons, List.mem_cons, mem_nub]
theorem nodup_nub : ∀ (l : List α), (nub l).Nodup
  | [] => .nil
  | b :: r => by
    unfold nub
    split
    · exact nodup_nub r
    · rename_i h
      exact List.nodup_cons.mpr ⟨fun q => h (mem_nub.mp q), nodup_nub r⟩
theorem nub_len_le : ∀ (l : List α), (nub l).length ≤ l.length
  | [] => Nat.le_refl _
  | b :: r => by
    unfold nub
    have := nub_len_le r
    split
    · rw [List.length_cons]; omega
    · rw [List.length_cons, List.length_cons]; omega
theorem nub_id : ∀ {l : List α}, l.Nodup → nub l = l
  | [], _ => rfl
  | b :: r, h => by
    have h := List.nodup_cons.mp h
    unfold nub
    rw [if_neg h.1, nub_id h.2]
/-- as many as there are: each once -/
theorem nub_nodup : ∀ {l : List α}, (nub l).length = l.length → l.Nodup
  | [], _ => .nil
  | b :: r, h => by
    unfold nub at h
    split at h
    · have := nub_len_le r
      rw [List.length_cons] at h; omega
    · rename_i hn
      rw [List.length_cons, List.length_cons] at h
      exact List.nodup_cons.mpr ⟨hn, nub_nodup (by omega)⟩
theorem perm_of_mem : ∀ {l m : List α}, l.Nodup → m.Nodup → (∀ x, x ∈ l ↔ x ∈ m) → l.Perm m
  | [], m, _, _, h => by
    cases m with
    | nil => exact .nil
    | cons b r => exact absurd ((h b).mpr (List.mem_cons_self ..)) (by simp)
  | a :: l, m, hl, hm, h => by
    have hl := List.nodup_cons.mp hl
    have ha : a ∈ m := (h a).mp (List.mem_cons_self ..)
    refine (List.Perm.cons a (perm_of_mem hl.2 (hm.erase a) fun x => ?_)).trans (List.perm_cons_erase ha).symm
    rw [hm.mem_erase_iff]
    constructor
    · intro hx
      exact ⟨fun e => hl.1 (e ▸ hx), (h x).mp (List.mem_cons_of_mem _ hx)⟩
    · rintro ⟨hne, hx⟩
      rcases List.mem_cons.mp ((h x).mpr hx) with e | e
      · exact absurd e hne
      · exact e
theorem nub_rev_len (l : List α) : (nub l.reverse).length = (nub l).length :=
  (perm_of_mem (nodup_nub _) (nodup_nub _) fun x => by rw [mem_nub, mem_nub, List.mem_reverse]).length_eq
end
/-! ### keys -/
section
variable {P : Program} {w : World} {κ : Type} [DecidableEq κ] (knd : KeyKind P w κ)
inductive KsAre : List κ → List Value → Prop
  | nil : KsAre [] []
  | cons {k : κ} {v : Value} {ks : List κ} {vs : List Value} : knd.is k v = true → KsAre ks vs → KsAre (k :: ks) (v :: vs)
end
section
variable {P : Program} {w : World} {κ : Type} [DecidableEq κ] {knd : KeyKind P w κ} {A : Around} {E : Value → Shared → Prop} {s : Shared}
theorem KsAre.length : ∀ {ks : List κ} {vs : List Value}, KsAre knd ks vs → ks.length = vs.length
  | _, _, .nil => rfl
  | _, _, .cons _ t => by rw [List.length_cons, List.length_cons, KsAre.length t]
theorem KsAre.get : ∀ {ks : List κ} {vs : List Value} {i : Nat} {v : Value}, KsAre knd ks vs → vs[i]? = some v → ∃ k, ks[i]? = some k ∧ knd.is k v = true
  | _, _, _, _, .nil, h => by simp at h
  | _, _, 0, v, .cons a _, h => by rw [List.getElem?_cons_zero] at h; cases h; exact ⟨_, rfl, a⟩
  | _, _, i + 1, v, .cons _ t, h => by
    obtain ⟨k, h1, h2⟩ := KsAre.get (i := i) t (by simpa using h)
    exact ⟨k, by simpa using h1, h2⟩
/-- a new set -/
abbrev newSetObj (w : World) : Obj := { cls := .type "set", dict := none, data := .set #[] 0 (.fresh 0 0 (!w.params.followText "set-order")) }
theorem setOf_at' {h h' : Heap} {a : Addr} {S : κ → Bool} {n : Nat} (R : h.SetOf knd a S n) (k : ∀ o, h.get? a = some o → h'.get? a = some o) : h'.SetOf knd a S n := by
  obtain ⟨o, es, ep, t, ho, r⟩ := R
  exact ⟨o, es, ep, t, k o ho, r⟩
theorem setK_zero {h : Heap} {a : Addr} {ks : List κ} (ho : h.get? a = some (newSetObj w)) : h.SetOf knd a (fun j => decide (j ∈ ks.take 0)) (nub (ks.take 0).reverse).length :=
  ⟨_, #[], 0, _, ho, ⟨rfl, rfl, rfl⟩, rfl, (fun e he => by simp at he), (fun k => by simp), (by decide), (by rfl), rfl⟩
theorem set_update_ks {I : Addr} {fp wr : List Addr} {G : Array GenState → Array GenState → Prop} {n : Nat} {Pv : Nat → Value → Prop} {St : Nat → Shared → Prop} {R : Result → Shared → Prop}
    (W : WalksS P w A.in1 I fp wr G n Pv St) (S : Addr) (hSf : S ∉ fp) (ks : List κ) (hn : n = ks.length) (hb : ks.length + 1 < scanBound) (hsc : ∀ k v, knd.is k v = true → v.scannable = true) (hval : ∀ i v, Pv i v → ∃ k, ks[i]? = some k ∧ knd.is k v = true) :
    ∀ (k i : Nat) (s : Shared), n - i = k → i ≤ n → St i s → s.heap.SetOf knd S (fun j => decide (j ∈ ks.take i)) (nub (ks.take i).reverse).length →
      (∀ s', Moved (S :: wr) G s s' → s'.heap.SetOf knd S (fun j => decide (j ∈ ks)) (nub ks.reverse).length → R (.ok (.ret .none)) s') →
      codeAny (model P w) A (.builtin "set.update.loop" ⟨[.ref S, .ref I], []⟩) R s := by
  have hSw : S ∉ wr := fun h => hSf (W.sub _ h)
  have hsub : ∀ b ∈ wr, b ∈ S :: wr := fun b hb => List.mem_cons_of_mem _ hb
  intro k
  induction k with
  | zero =>
    intro i s hk' hi hst hS hR
    have hin : i = n := by omega
    subst hin
    refine codeAny_builtin F.entry_set_update_loop ?_
    rw [Around.under_plainId F.plain_set_update_loop _]
    show wpAny _ A.in1 (pyNext (.ref I) >>= _) _ _ s
    refine wpAny_bind (W.done s _ _ hst fun s' hm => ?_)
    show wpAny _ A.in1 (ret Value.none) _ _ s'
    have e : ks.take i = ks := List.take_of_length_le (by omega)
    rw [e] at hS
    exact wpAny_pure (hR s' (hm.mono hsub) (setOf_at' hS fun o e => hm.heap S o hSw e))
  | succ k ih =>
    intro i s hk' hi hst hS hR
    have hlt : i < n := by omega
    refine codeAny_builtin F.entry_set_update_loop ?_
    rw [Around.under_plainId F.plain_set_update_loop _]
    show wpAny _ A.in1 (pyNext (.ref I) >>= _) _ _ s
    refine wpAny_bind (W.item i s _ _ hlt hst fun v s' hP hst' hm => ?_)
    obtain ⟨z, hz, hv⟩ := hval i v hP
    have hS' := setOf_at' (h' := s'.heap) hS fun o e => hm.heap S o hSw e
    show wpAny _ A.in1 (holding [v] (setAdd S v) >>= _) _ _ s'
    refine wpAny_bind (wpAny_holding ?_)
    unfold setAdd
    refine wpAny_holding ?_
    refine wpAny_bind (knd.pyHash (k := z) hv ?_)
    have hroom : (nub (ks.take i).reverse).length + 1 < scanBound := by
      have := nub_len_le (ks.take i).reverse
      rw [List.length_reverse, List.length_take] at this
      omega
    refine wpAny_setAddHashed_of (knd := knd) (s := { s' with toks := s'.toks + 1 }) hv (hsc z v hv) hS' hroom fun h' hsb hS2 => ?_
    have hS3 : h'.SetOf knd S (fun j => decide (j ∈ ks.take (i + 1))) (nub (ks.take (i + 1)).reverse).length := by
      have e1 : (fun k' => decide (k' ∈ ks.take i) || decide (k' = z)) = fun j => decide (j ∈ ks.take (i + 1)) := by
        funext j
        rw [List.take_add_one, hz]
        simp [List.mem_append]
      have e2 : (if decide (z ∈ ks.take i) = true then (nub (ks.take i).reverse).length else (nub (ks.take i).reverse).length + 1) = (nub (ks.take (i + 1)).reverse).length := by
        rw [List.take_add_one, hz]
        show _ = (nub (ks.take i ++ [z]).reverse).length
        rw [List.reverse_append]
        show _ = (nub (z :: (ks.take i).reverse)).length
        rw [nub_cons]
        by_cases c : z ∈ ks.take i
        · rw [if_pos (by simpa using c), if_pos (by simpa using c)]
        · rw [if_neg (by simpa using c), if_neg (by simpa using c), List.length_cons]
      rw [e1, e2] at hS2
      exact hS2
    refine wpAny_pure ⟨plainId_quiet F.plain_set_update_loop _, ih (i + 1) _ (by omega) hlt (W.frame _ s' _ _ hst' (Nat.le_succ _) fun b hb o e => ?_) hS3 fun s'' hm'' hS'' => ?_⟩
    · rw [hsb.2 b (fun h : b = S => hSf (by rw [← h]; exact hb))]; exact e
    · refine hR s'' (Moved.trans W.gtrans ((hm.mono hsub).then_heap (Nat.le_succ _) fun b o hb e => ?_) hm'') hS''
      rw [hsb.2 b (fun h : b = S => hb (by rw [h]; exact List.mem_cons_self))]; exact e

set_option maxHeartbeats 3200000 in
/-- set of a list -/
theorem set_of_list {l : Addr} {items : Array Value} (ks : List κ) {Q : Value → Shared → Prop} (hh : A.handled = none) (hl : s.heap.IsList l items) (hit : KsAre knd ks items.toList) (hsc : ∀ k v, knd.is k v = true → v.scannable = true) (hb : ks.length + 1 < scanBound)
    (h : ∀ (h' : Heap) (tk : Nat), h'.SetOf knd s.heap.objs.size (fun j => decide (j ∈ ks)) (nub ks.reverse).length → (∀ b o, s.heap.get? b = some o → h'.get? b = some o) → Q (.ref s.heap.objs.size) { s with heap := h', toks := tk }) :
    wpAny (model P w) A (call (.type "set") [.ref l]) Q E s := by
  have hisz : items.size = ks.length := by
    have q := hit.length
    rw [Array.length_toList] at q
    exact q.symm
  obtain ⟨c, tl, hmro⟩ := F.called_set.mro
  have hmade := F.called_set.made
  have hsub := F.called_set.sub
  refine wpAny_call (codeAny_of_tree ?_)
  show wpAny _ _ (callAny (.type "set") _) _ _ _
  refine wpAny_pure ⟨Code.quiet_builtin _ (by decide +kernel), codeAny_builtin F.entry_type_call ?_⟩
  rw [Around.under_plain (weight_type_call_type "set" [.ref l] []) rfl]
  have h1 := F.called_set.notType
  have h2 := F.called_set.canCreate
  have hct := F.typeCall_set_1 (.ref l)
  repeat (any_goals (first | assumption | wp_step))
  refine codeAny_mono (code_set_led1 (.ref l) (E := E) (Q₁ := fun obj s₁ => obj = .ref s.heap.objs.size ∧ s₁ = { s with heap := s.heap.push (newSetObj w) }) ⟨rfl, rfl⟩) fun r s₁ hr => ?_
  cases r with
  | error e => exact hr
  | ok fl =>
    cases fl with
    | ret obj =>
      obtain ⟨rfl, rfl⟩ := hr
      have hS : (s.heap.push (newSetObj w)).get? s.heap.objs.size = some (newSetObj w) := Heap.get?_push_size _ rfl
      have hT : Shared.TypeIs { s with heap := s.heap.push (newSetObj w) } (.ref s.heap.objs.size) "set" := ⟨_, hS, rfl⟩
      have hli := F.called_set.init.lookup
      have hbi := F.called_set.init.bind (.ref s.heap.objs.size)
      repeat (any_goals (first | assumption | wp_step))
      refine codeAny_mono (codeAny_call_builtin (R := wants (fun r s₂ => r = .none ∧ ∃ h' tk, s₂ = { s with heap := h', toks := tk } ∧ h'.SetOf knd s.heap.objs.size (fun j => decide (j ∈ ks)) (nub ks.reverse).length ∧
          (∀ b o, s.heap.get? b = some o → h'.get? b = some o)) E) F.called_set.init.plain F.entry_set_init (check_set_init_1 hT ?_)) fun r₂ s₂ hr₂ => ?_
      · obtain ⟨ol, hol, hcl, nl, hdl⟩ := hl
        obtain ⟨ocls, odict, odata, oslots⟩ := ol
        simp only at hcl hdl
        subst hcl; subst hdl
        have hol' : (s.heap.push (newSetObj w)).get? l = some { cls := .type "list", dict := odict, data := .seq items nl, slots := oslots } := Heap.get?_push_of_some _ hol
        have hsls := F.sub_list_set
        have hslf := F.sub_list_frozenset
        have hne : (Value.type "list" == Value.type "dict") = false := by decide
        have hl1 : (s.heap.push (newSetObj w)).IsList l items := ⟨_, hol', rfl, nl, rfl⟩
        unfold Builtin.«set.__init__» noKeywords Builtin.Frozenset.updateFrom
        generalize hPI : pyIter = PI
        wp_walk
        subst hPI
        refine wpAny_pyIter_list hl1 ?_
        refine wpAny_bind (wpAny_runValue ?_)
        have hlS : l < s.heap.objs.size := Heap.lt_size hol
        have hh3 : A.in1.in1.in1.handled = none := by simp [hh]
        have hz1 : (s.heap.push (newSetObj w)).objs.size = s.heap.objs.size + 1 := Heap.size_push ..
        have hneI : l ≠ (s.heap.push (newSetObj w)).objs.size := by
          rw [Heap.size_push]; exact Nat.ne_of_lt (Nat.lt_succ_of_lt hlS)
        have hSf : s.heap.objs.size ∉ [(s.heap.push (newSetObj w)).objs.size, l] := by
          rw [Heap.size_push]; simp only [List.mem_cons, List.mem_singleton, List.not_mem_nil, or_false, not_or]
          exact ⟨Nat.ne_of_lt (Nat.lt_succ_self _), Nat.ne_of_gt hlS⟩
        have hval : ∀ (i : Nat) (v : Value), items[i]? = some v → ∃ k, ks[i]? = some k ∧ knd.is k v = true := fun i v hv => hit.get (by rw [Array.getElem?_toList]; exact hv)
        refine set_update_ks ((Walks.list hh3 _ l hneI items).toS) s.heap.objs.size
          hSf ks hisz hb hsc hval (items.size - 0) 0 _ (by omega) (Nat.zero_le _)
          ⟨⟨_, Heap.get?_push_size _ rfl, rfl, rfl⟩, (hl1.push _)⟩ ?hS0 ?hR
        case hS0 =>
          have hget : ((s.heap.push (newSetObj w)).push { cls := .type "list_iterator", data := .fields #[.ref l, .int 0 0] }).get? s.heap.objs.size = some (newSetObj w) := Heap.get?_push_of_some _ hS
          exact setK_zero hget
        case hR =>
          intro s' hm hS'
          obtain ⟨h', g2, d', tk', os'⟩ := s'
          have eg : g2 = s.gens := hm.gens
          have ed : d' = s.drawn := hm.drawn
          have eo : os' = s.os := hm.os
          subst eg; subst ed; subst eo
          show wpAny _ _ _ _ _ _
          refine wpAny_pure ?_
          show wpAny _ _ (ret Value.none) _ _ _
          refine wpAny_pure ⟨rfl, h', tk', rfl, hS', fun b o e => ?_⟩
          have hb0 : b < s.heap.objs.size := Heap.lt_size e
          have hb1 : b ≠ s.heap.objs.size := Nat.ne_of_lt hb0
          have hb2 : b ≠ (s.heap.push (newSetObj w)).objs.size := by
            rw [Heap.size_push]; exact Nat.ne_of_lt (Nat.lt_succ_of_lt hb0)
          exact hm.heap b o (by simp only [List.mem_cons, List.mem_singleton, List.not_mem_nil, or_false, not_or]; exact ⟨hb1, hb2⟩) (Heap.get?_push_of_some _ (Heap.get?_push_of_some _ e))
      · cases r₂ with
        | error e => exact hr₂
        | ok fl₂ =>
          cases fl₂ with
          | ret r =>
            obtain ⟨rfl, h', tk, rfl, hS', hk'⟩ := hr₂
            repeat (any_goals (first | assumption | wp_step))
            exact h _ _ hS' hk'
          | _ => exact hr₂.elim
    | _ => exact hr.elim

set_option maxHeartbeats 3200000 in
/-- set of a tuple -/
theorem set_of_tuple {l : Addr} {items : Array Value} (ks : List κ) {Q : Value → Shared → Prop} (hh : A.handled = none) (hl : s.heap.IsTuple l items) (hit : KsAre knd ks items.toList) (hsc : ∀ k v, knd.is k v = true → v.scannable = true) (hb : ks.length + 1 < scanBound)
    (h : ∀ (h' : Heap) (tk : Nat), h'.SetOf knd s.heap.objs.size (fun j => decide (j ∈ ks)) (nub ks.reverse).length → (∀ b o, s.heap.get? b = some o → h'.get? b = some o) → Q (.ref s.heap.objs.size) { s with heap := h', toks := tk }) :
    wpAny (model P w) A (call (.type "set") [.ref l]) Q E s := by
  have hisz : items.size = ks.length := by
    have q := hit.length
    rw [Array.length_toList] at q
    exact q.symm
  obtain ⟨c, tl, hmro⟩ := F.called_set.mro
  have hmade := F.called_set.made
  have hsub := F.called_set.sub
  refine wpAny_call (codeAny_of_tree ?_)
  show wpAny _ _ (callAny (.type "set") _) _ _ _
  refine wpAny_pure ⟨Code.quiet_builtin _ (by decide +kernel), codeAny_builtin F.entry_type_call ?_⟩
  rw [Around.under_plain (weight_type_call_type "set" [.ref l] []) rfl]
  have h1 := F.called_set.notType
  have h2 := F.called_set.canCreate
  have hct := F.typeCall_set_1 (.ref l)
  repeat (any_goals (first | assumption | wp_step))
  refine codeAny_mono (code_set_led1 (.ref l) (E := E) (Q₁ := fun obj s₁ => obj = .ref s.heap.objs.size ∧ s₁ = { s with heap := s.heap.push (newSetObj w) }) ⟨rfl, rfl⟩) fun r s₁ hr => ?_
  cases r with
  | error e => exact hr
  | ok fl =>
    cases fl with
    | ret obj =>
      obtain ⟨rfl, rfl⟩ := hr
      have hS : (s.heap.push (newSetObj w)).get? s.heap.objs.size = some (newSetObj w) := Heap.get?_push_size _ rfl
      have hT : Shared.TypeIs { s with heap := s.heap.push (newSetObj w) } (.ref s.heap.objs.size) "set" := ⟨_, hS, rfl⟩
      have hli := F.called_set.init.lookup
      have hbi := F.called_set.init.bind (.ref s.heap.objs.size)
      repeat (any_goals (first | assumption | wp_step))
      refine codeAny_mono (codeAny_call_builtin (R := wants (fun r s₂ => r = .none ∧ ∃ h' tk, s₂ = { s with heap := h', toks := tk } ∧ h'.SetOf knd s.heap.objs.size (fun j => decide (j ∈ ks)) (nub ks.reverse).length ∧
          (∀ b o, s.heap.get? b = some o → h'.get? b = some o)) E) F.called_set.init.plain F.entry_set_init (check_set_init_1 hT ?_)) fun r₂ s₂ hr₂ => ?_
      · obtain ⟨ol, hol, hcl, nl, hdl⟩ := hl
        obtain ⟨ocls, odict, odata, oslots⟩ := ol
        simp only at hcl hdl
        subst hcl; subst hdl
        have hol' : (s.heap.push (newSetObj w)).get? l = some { cls := .type "tuple", dict := odict, data := .seq items nl, slots := oslots } := Heap.get?_push_of_some _ hol
        have hsls := F.sub_tuple_set
        have hslf := F.sub_tuple_frozenset
        have hne : (Value.type "tuple" == Value.type "dict") = false := by decide
        have hl1 : (s.heap.push (newSetObj w)).IsTuple l items := ⟨_, hol', rfl, nl, rfl⟩
        unfold Builtin.«set.__init__» noKeywords Builtin.Frozenset.updateFrom
        generalize hPI : pyIter = PI
        wp_walk
        subst hPI
        refine wpAny_pyIter_tuple hl1 ?_
        refine wpAny_bind (wpAny_runValue ?_)
        have hlS : l < s.heap.objs.size := Heap.lt_size hol
        have hh3 : A.in1.in1.in1.handled = none := by simp [hh]
        have hz1 : (s.heap.push (newSetObj w)).objs.size = s.heap.objs.size + 1 := Heap.size_push ..
        have hneI : l ≠ (s.heap.push (newSetObj w)).objs.size := by
          rw [Heap.size_push]; exact Nat.ne_of_lt (Nat.lt_succ_of_lt hlS)
        have hSf : s.heap.objs.size ∉ [(s.heap.push (newSetObj w)).objs.size, l] := by
          rw [Heap.size_push]; simp only [List.mem_cons, List.mem_singleton, List.not_mem_nil, or_false, not_or]
          exact ⟨Nat.ne_of_lt (Nat.lt_succ_self _), Nat.ne_of_gt hlS⟩
        have hval : ∀ (i : Nat) (v : Value), items[i]? = some v → ∃ k, ks[i]? = some k ∧ knd.is k v = true := fun i v hv => hit.get (by rw [Array.getElem?_toList]; exact hv)
        refine set_update_ks ((Walks.tuple hh3 _ l hneI items).toS) s.heap.objs.size
          hSf ks hisz hb hsc hval (items.size - 0) 0 _ (by omega) (Nat.zero_le _)
          ⟨⟨_, Heap.get?_push_size _ rfl, rfl, rfl⟩, (hl1.push _)⟩ ?hS0 ?hR
        case hS0 =>
          have hget : ((s.heap.push (newSetObj w)).push { cls := .type "tuple_iterator", data := .fields #[.ref l, .int 0 0] }).get? s.heap.objs.size = some (newSetObj w) := Heap.get?_push_of_some _ hS
          exact setK_zero hget
        case hR =>
          intro s' hm hS'
          obtain ⟨h', g2, d', tk', os'⟩ := s'
          have eg : g2 = s.gens := hm.gens
          have ed : d' = s.drawn := hm.drawn
          have eo : os' = s.os := hm.os
          subst eg; subst ed; subst eo
          show wpAny _ _ _ _ _ _
          refine wpAny_pure ?_
          show wpAny _ _ (ret Value.none) _ _ _
          refine wpAny_pure ⟨rfl, h', tk', rfl, hS', fun b o e => ?_⟩
          have hb0 : b < s.heap.objs.size := Heap.lt_size e
          have hb1 : b ≠ s.heap.objs.size := Nat.ne_of_lt hb0
          have hb2 : b ≠ (s.heap.push (newSetObj w)).objs.size := by
            rw [Heap.size_push]; exact Nat.ne_of_lt (Nat.lt_succ_of_lt hb0)
          exact hm.heap b o (by simp only [List.mem_cons, List.mem_singleton, List.not_mem_nil, or_false, not_or]; exact ⟨hb1, hb2⟩) (Heap.get?_push_of_some _ (Heap.get?_push_of_some _ e))
      · cases r₂ with
        | error e => exact hr₂
        | ok fl₂ =>
          cases fl₂ with
          | ret r =>
            obtain ⟨rfl, h', tk, rfl, hS', hk'⟩ := hr₂
            repeat (any_goals (first | assumption | wp_step))
            exact h _ _ hS' hk'
          | _ => exact hr₂.elim
    | _ => exact hr.elim
end
end Ev

/-! EvBh: .. as expressions. -/
namespace Ev
open PySem PySem.Spec PySem.Calls PyProof.Rows L2
section
variable {prog : Program} {w : World} {A : Around} {E : Value → Shared → Prop} {s : Shared}
theorem hash_none {Q : Int → Shared → Prop} (h : Q 0xFCA86420 { s with toks := s.toks + 1 }) : wpAny (model prog w) A (pyHash .none) Q E s := by
  unfold pyHash
  have hv : [Value.none].any Value.onHeap = false := rfl
  refine wpAny_bind ?_
  rw [cRoomFor, if_neg (by rw [hv]; exact Bool.false_ne_true)]; refine wpAny_pure ?_
  refine wpAny_bind (wpAny_specialOf (typeIs_none s) F.slot_NoneType_hash.lookup ?_)
  show wpAny _ _ (if (some (Value.builtin "NoneType.__hash__") == some Value.none) = true then _ else _) Q E s
  rw [if_neg (by rw [beq_builtin_none]; exact Bool.false_ne_true)]
  refine wpAny_bind (wpAny_specialOf (typeIs_none s) F.slot_NoneType_hash.lookup ?_)
  show wpAny _ _ (callSpecialIfBoundUnlessNone? .none "__hash__" _ >>= _) Q E s
  refine wpAny_bind (wpAny_callSpecialIfBoundUnlessNone?_slot (typeIs_none s) F.slot_NoneType_hash
    (wpAny_call_entry F.slot_NoneType_hash (typeIs_none s) F.entry_NoneType_hash
      (show wpAny _ _ (do ret (← mkInt 0xFCA86420)) _ _ s from wpAny_ret_mkInt ?_) (F.args_NoneType_hash_1 _)))
  show wpAny _ _ (if (decide (-(2 : Int) ^ 63 ≤ 0xFCA86420) && decide ((0xFCA86420 : Int) < 2 ^ 63)) = true then _ else _) Q E _
  rw [if_pos (by decide)]
  exact wpAny_pure h
end
def isOi : Option Int → Value → Bool
  | none, .none => true
  | some i, v => Value.isInt i v
  | _, _ => false
theorem isOi_shape {k : Option Int} {v : Value} (h : isOi k v = true) : (k = none ∧ v = .none) ∨ ∃ i t, k = some i ∧ v = .int i t := by
  cases k with
  | none => cases v <;> first | exact .inl ⟨rfl, rfl⟩ | cases h
  | some i =>
    obtain ⟨t, e⟩ := Value.isInt_shape (k := i) (v := v) (by cases v <;> exact h)
    exact .inr ⟨i, t, rfl, e⟩
def oiKind (P : Program) (w : World) : KeyKind P w (Option Int) where
  is := isOi
  hash := fun k => match k with
    | none => 0xFCA86420
    | some i => hashInt i
  inj := fun v a b ha hb => by
    rcases isOi_shape ha with ⟨e1, e2⟩ | ⟨i, t, e1, e2⟩ <;> rcases isOi_shape hb with ⟨e3, e4⟩ | ⟨j, u, e3, e4⟩
    · rw [e1, e3]
    · rw [e2] at e4; cases e4
    · rw [e2] at e4; cases e4
    · rw [e2] at e4; cases e4; rw [e1, e3]
  byValue := fun k v h => by
    rcases isOi_shape h with ⟨e1, e2⟩ | ⟨i, t, e1, e2⟩ <;> rw [e2] <;> rfl
  pyHash := fun {A E s k v Q} h q => by
    rcases isOi_shape h with ⟨e1, e2⟩ | ⟨i, t, e1, e2⟩
    · subst e1 e2; exact hash_none q
    · subst e1 e2; exact wpAny_pyHash_int q
  eqBool := fun {A E s a b u v Q} ha hb q => by
    rcases isOi_shape ha with ⟨e1, e2⟩ | ⟨i, t, e1, e2⟩ <;> rcases isOi_shape hb with ⟨e3, e4⟩ | ⟨j, y, e3, e4⟩
    · subst e1 e2 e3 e4; exact SeqAt.EqAt.same .none _ _ _ _ (by simpa using q)
    · subst e1 e2 e3 e4; exact SeqAt.EqAt.none_int j y _ _ _ _ (by simpa using q)
    · subst e1 e2 e3 e4; exact SeqAt.EqAt.int_none i t _ _ _ _ (by simpa using q)
    · subst e1 e2 e3 e4; exact wpAny_eqBool_int (by
        have e : decide (some i = some j) = (i == j) := by by_cases c : i = j <;> simp [c]
        rw [← e]; exact q)
  «strs» := fun k x t v h => by
    rcases isOi_shape h with ⟨e1, e2⟩ | ⟨i, t, e1, e2⟩ <;> cases e2
def oiV : Option Int → V
  | none => .non
  | some i => .int i
theorem oi_are {P : Program} {w : World} : ∀ {ks : List (Option Int)} {us : List Value}, Vals (ks.map oiV) us → KsAre (oiKind P w) ks us
  | [], _, .nil => .nil
  | none :: ks, _, .cons r t => by
    cases (show _ = Value.none from r)
    exact .cons rfl (oi_are t)
  | some i :: ks, _, .cons r t => by
    obtain ⟨u, rfl⟩ := r
    exact .cons (by show Value.isInt i (.int i u) = true; simp [Value.isInt]) (oi_are t)
/-- a set with so many things in it -/
def LenO (a : Addr) (n : Nat) : HO := .ext fun h => ∃ (o : Obj) (es : Array (Int × Value)) (ep : Nat) (t : SetTable), h.get? a = some o ∧ o.ExactSet ∧ o.data = .set es ep t ∧ t.fits es.size = true ∧ es.size = n ∧ n < 4096
theorem lenO_new {P : Program} {w : World} {H : Hp} {h : Heap} {a : Addr} {n : Nat} (R : ∃ (o : Obj) (es : Array (Int × Value)) (ep : Nat) (t : SetTable), h.get? a = some o ∧ o.ExactSet ∧ o.data = .set es ep t ∧ t.fits es.size = true ∧ es.size = n ∧ n < 4096) : ObjOk P w H h a (LenO a n) := by
  have ⟨o, es, ep, t, ho, r⟩ := R
  refine ⟨⟨o, es, ep, t, ho, r⟩, ⟨o, ho⟩, fun h1 h2 p k => ?_⟩
  obtain ⟨o', es', ep', t', ho', r'⟩ := p
  exact ⟨o', es', ep', t', k _ ho', r'⟩
section
variable {X : Cx} {C : Cl} {T : Nm} {pos p p2 q : Pos} {x y : Str}
/-- set(..), for its length -/
def rSetE (K : PySem.W.Frag) : List V → Hp → VK → Prop := fun xs H Q => ∃ l n, xs = [V.ref l] ∧
  ((∃ ks : List (Option Int), (SqL K H l (ks.map oiV) ∨ SqT K H l (ks.map oiV)) ∧ ks.length < 64 ∧ n = (nub ks).length) ∨
   (∃ ks : List (Addr × List Int), SqL K H l (ks.map fun p => V.ref p.1) ∧ (∀ p ∈ ks, SqT K H p.1 (p.2.map V.int)) ∧ ks.length < 64 ∧ n = (nub (ks.map (·.2))).length)) ∧
  ∀ a, H a = none → Q (.ref a) (upd H a (LenO a n))
theorem cr_setE (hc : X.calm = true) (hu : X.A.units + 64 < cLine) : CallR X (.type "set") (rSetE X.K) := by
  intro pins s σ H xs us Q I r h
  obtain ⟨l, n, rfl, hk, q⟩ := h
  rw [Vals.ref1 r]
  have hn : H s.heap.objs.size = none := I.hok.fresh (Nat.le_refl _)
  have fin : ∀ (h' : Heap) (tk : Nat), (∃ (o : Obj) (es : Array (Int × Value)) (ep : Nat) (t : SetTable), h'.get? s.heap.objs.size = some o ∧ o.ExactSet ∧ o.data = .set es ep t ∧ t.fits es.size = true ∧ es.size = n ∧ n < 4096) → (∀ b o, s.heap.get? b = some o → h'.get? b = some o) → EP X pins σ Q (.ref s.heap.objs.size) { s with heap := h', toks := tk } := fun h' tk R k =>
    ⟨.ref s.heap.objs.size, upd H s.heap.objs.size (LenO s.heap.objs.size n), I.laid (t' := tk) k (Nat.le_refl _) (lenO_new R), rfl, q _ hn⟩
  have one : ∀ (ks : List (Option Int)) (h' : Heap) (S : Option Int → Bool), ks.length < 64 → n = (nub ks).length → h'.SetOf (oiKind X.prog X.w) s.heap.objs.size S (nub ks.reverse).length → ∃ (o : Obj) (es : Array (Int × Value)) (ep : Nat) (t : SetTable), h'.get? s.heap.objs.size = some o ∧ o.ExactSet ∧ o.data = .set es ep t ∧ t.fits es.size = true ∧ es.size = n ∧ n < 4096 := fun ks h' S hf en hS => by
    obtain ⟨o, es, ep, t, ho, hex, hd, _, _, _, hft, hz⟩ := hS
    have := nub_len_le ks
    exact ⟨o, es, ep, t, ho, hex, hd, hft, by rw [hz, nub_rev_len, en], by omega⟩
  rcases hk with ⟨ks, hs | hs, hf, en⟩ | ⟨ks, hs, ht, hf, en⟩
  · obtain ⟨its, rv, pl, hz⟩ := I.list hs
    exact set_of_list (knd := oiKind X.prog X.w) ks (I.ok.hd hc) pl.isList (by simpa using oi_are rv) (fun k v hv => by
      rcases isOi_shape hv with ⟨_, e⟩ | ⟨i, t, _, e⟩ <;> rw [e] <;> rfl) (by unfold scanBound; omega) fun h' tk hS k => fin h' tk (one ks h' _ hf en hS) k
  · obtain ⟨its, rv, pl, hz⟩ := I.tuple hs
    have pt : s.heap.IsTuple l its.toArray := pl
    exact set_of_tuple (knd := oiKind X.prog X.w) ks (I.ok.hd hc) pt (by simpa using oi_are rv) (fun k v hv => by
      rcases isOi_shape hv with ⟨_, e⟩ | ⟨i, t, _, e⟩ <;> rw [e] <;> rfl) (by unfold scanBound; omega) fun h' tk hS k => fin h' tk (one ks h' _ hf en hS) k
  · obtain ⟨its, rv, pl, hz⟩ := I.list hs
    refine call_set_tups (P := X.prog) (w := X.w) ks (I.ok.hd hc) pl.isList (by simpa using refs_of_vals rv) (fun p hp => I.isT (ht p hp)) hf (by omega) fun h' tk L es ep t R g k => fin h' tk ?_ k
    obtain ⟨o, ho, hex, hd⟩ := R.ob
    refine ⟨o, es, ep, t, ho, hex, hd, SetTR.fits (s := { s with heap := h' }) R, ?_, by have := nub_len_le (ks.map (·.2)); rw [List.length_map] at this; omega⟩
    rw [SetTR.size (s := { s with heap := h' }) R, en, ← List.length_map (f := (·.2)) (as := L)]
    refine (perm_of_mem R.nd (nodup_nub _) fun z => ?_).length_eq
    rw [mem_nub]
    constructor
    · intro hz
      obtain ⟨p, hp, e⟩ := List.mem_map.mp hz
      exact List.mem_map.mpr ⟨p, List.mem_of_mem_take (g.sub p hp), e⟩
    · intro hz
      obtain ⟨p, hp, e⟩ := List.mem_map.mp hz
      rw [← e]
      exact g.all p (by rw [List.take_length]; exact hp)
def rLenO : List V → Hp → VK → Prop := fun xs H Q => ∃ a n, xs = [V.ref a] ∧ H a = some (LenO a n) ∧ Q (.int (n : Nat)) H
theorem cr_lenO : CallR X (.builtin "len") rLenO := by
  intro pins s σ H xs us Q I r h
  obtain ⟨a, n, rfl, ha, q⟩ := h
  rw [Vals.ref1 r]
  have z : ObjOk X.prog X.w H s.heap a (LenO a n) := I.hok a _ ha
  obtain ⟨⟨o, es, ep, t, ho, hex, hd, hf, hz, hn⟩, _, _⟩ := z
  exact call_len_set ho hex hd hf (by omega) ⟨.int (n : Nat), H, I.tok _, ⟨_, by rw [hz]⟩, q⟩
theorem allOi_rep {K : PySem.W.Frag} {r : List Addr} {H : Hp} : ∀ {l : List D} {vs : List V} {ks : List (Option Int)}, RDs K r H l vs → allOf oiOf l = some ks → vs = ks.map oiV
  | [], _, _, .nil, e => by cases e; rfl
  | d :: l, _, _, .cons a t, e => by
    unfold allOf at e
    split at e
    · rename_i x xs h1 h2
      cases e
      rw [List.map_cons, allOi_rep t h2]
      cases d with
      | non => cases h1; cases a; rfl
      | int i => cases h1; cases a; rfl
      | _ => cases h1
    · cases e
theorem allTi_rep {K : PySem.W.Frag} {r : List Addr} {H : Hp} : ∀ {l : List D} {vs : List V} {ks : List (List Int)}, RDs K r H l vs → allOf tiOf l = some ks → ∃ ps : List (Addr × List Int), vs = ps.map (fun p => V.ref p.1) ∧ ps.map (·.2) = ks ∧ ∀ p ∈ ps, SqT K H p.1 (p.2.map V.int)
  | [], _, _, .nil, e => by cases e; exact ⟨[], rfl, rfl, fun _ h => nomatch h⟩
  | d :: l, _, _, .cons a t, e => by
    unfold allOf at e
    split at e
    · rename_i x xs h1 h2
      cases e
      obtain ⟨ps, e1, e2, e3⟩ := allTi_rep t h2
      cases d with
      | tup m =>
        cases a with
        | tup g1 g2 =>
          have ev := intsOf_rep g2 h1
          subst ev
          refine ⟨(_, x) :: ps, by rw [List.map_cons, ← e1], by rw [List.map_cons, e2], fun p hp => ?_⟩
          rcases List.mem_cons.mp hp with rfl | hp
          · exact g1.sq
          · exact e3 p hp
      | _ => cases h1
    · cases e
theorem x_lenset {a : E} {pa : Expr} (F : Fit T C X) (hp : plainE pa = true) (hx : T.bi "len" x = true) (hy : T.bi "set" y = true) (ha : PE X pa (tE X.K C a)) : PE X (.Call (.Name x p) [.Call (.Name y p2) [pa] [] q] [] pos) (tE X.K C (.lenset a)) := by
  obtain ⟨rfl, hg, hm⟩ := F.bi hx
  obtain ⟨rfl, hg2, hm2⟩ := F.bi hy
  have hu : X.A.units + 64 < cLine := by have := F.un; omega
  have A := pa_cons ha pa_nil (plain_star hp)
  have B : PE X (.Call (.Name "set" p2) [pa] [] q) (tCB (rSetE X.K) (tCons (tE X.K C a) tNil)) := pe_callTy (cr_setE F.calm hu) hg2 hm2 (by decide +kernel) A (he := plain_star hp) (hpl := rfl)
  have g : PE X (.Call (.Name "len" p) [.Call (.Name "set" p2) [pa] [] q] [] pos) (tCB rLenO (tCons (tCB (rSetE X.K) (tCons (tE X.K C a) tNil)) tNil)) :=
    pe_callB cr_lenO hg hm (by decide +kernel) (pa_cons B pa_nil rfl) (he := rfl) (hpl := rfl)
  exact g.imp fun t H Q h => by
    obtain ⟨s, M, r, w, M', hs, hm, e, q⟩ := h
    simp only [evE] at e
    obtain ⟨x, M1, e1, ea⟩ := bind_ok e
    obtain ⟨e3, rfl⟩ := opt_ok ea
    refine ⟨s, M, r, x, M', hs, hm, e1, fun r1 H1 v1 st1 m1 w1 => ?_⟩
    unfold lensetW at e3
    split at e3
    · rename_i l hl
      split at e3
      · rename_i hlen
        obtain ⟨p', vs, rfl, h2, h3⟩ := asQ_rep m1 w1 hl
        have fin : ∀ n : Nat, w = .v (.int (n : Nat)) → ∀ b, H1 b = none → rLenO [V.ref b] (upd H1 b (LenO b n)) Q := fun n en b hb => by
          subst en
          exact ⟨b, n, rfl, upd_same, q r1 _ _ (st1.trans (.fresh hb)) (m1.fresh hb) (.int _)⟩
        split at e3
        · rename_i ks hks
          cases e3
          have ev := allOi_rep h3 hks
          subst ev
          have hkl : ks.length < 64 := by have := h3.length; rw [List.length_map] at this; omega
          refine ⟨p', _, rfl, .inl ⟨ks, ?_, hkl, rfl⟩, fin _ rfl⟩
          rcases h2 with ⟨_, h2⟩ | ⟨_, _, h2⟩
          · exact .inr h2.sq
          · exact .inl h2
        · split at e3
          · rename_i ks ht hks
            cases e3
            obtain ⟨ps, e4, e5, e6⟩ := allTi_rep h3 hks
            subst e4
            have hkl : ps.length < 64 := by have := h3.length; rw [List.length_map] at this; omega
            refine ⟨p', _, rfl, .inr ⟨ps, ?_, e6, hkl, rfl⟩, fin _ (by rw [e5])⟩
            rcases h2 with ⟨h4, _⟩ | ⟨_, _, h2⟩
            · rw [ht] at h4; cases h4
            · exact h2
          · cases e3
      · cases e3
    · cases e3
end
end Ev

/-! EvBi: sorted(set(..)), a dict with one thing, texts of numbers, min of three, a row or another. -/
namespace Ev
open PySem PySem.Spec PySem.Calls PyProof.Rows L2
theorem strict_of : ∀ {l : List Int}, l.Pairwise (· ≤ ·) → l.Nodup → l.Pairwise (· < ·)
  | [], _, _ => .nil
  | a :: l, h, n => by
    have h := List.pairwise_cons.mp h
    have n := List.nodup_cons.mp n
    exact List.pairwise_cons.mpr ⟨fun b hb => by
      have h1 := h.1 b hb
      have : a ≠ b := fun e => n.1 (e ▸ hb)
      omega, strict_of h.2 n.2⟩
section
variable {X : Cx} {C : Cl} {T : Nm} {pos p p2 q : Pos} {x y : Str}
/-! ### sorted(set(t)) -/
def rSetT (K : PySem.W.Frag) (w : World) : List V → Hp → VK → Prop := fun xs H Q => ∃ (l : Addr) (ns : List Int), xs = [V.ref l] ∧ SqT K H l (ns.map V.int) ∧ ns.length < 64 ∧ ∀ a c, c ≤ ns.length → H a = none → Q (.ref a) (upd H a (SetO w a (fun j => decide (j ∈ ns)) c))
theorem cr_setT (hc : X.calm = true) : CallR X (.type "set") (rSetT X.K X.w) := by
  intro pins s σ H xs us Q I r h
  obtain ⟨l, ns, rfl, hs, hf, q⟩ := h
  rw [Vals.ref1 r]
  obtain ⟨its, rv, pl, hz⟩ := I.tuple hs
  have pt : s.heap.IsTuple l its.toArray := pl
  refine call_set_tupI (P := X.prog) (w := X.w) ns (I.ok.hd hc) pt (by simpa using rv.ints) (by unfold scanBound; omega) fun h' tk c R hcn k => ?_
  exact ⟨.ref s.heap.objs.size, upd H s.heap.objs.size (SetO X.w s.heap.objs.size (fun j => decide (j ∈ ns)) c), I.laid (t' := tk) k (Nat.le_refl _) (setO_new R), rfl, q _ c hcn (I.hok.fresh (Nat.le_refl _))⟩
theorem x_sset {a : E} {pa : Expr} (F : Fit T C X) (hp : plainE pa = true) (hx : T.bi "sorted" x = true) (hy : T.bi "set" y = true) (ha : PE X pa (tE X.K C a)) : PE X (.Call (.Name x p) [.Call (.Name y p2) [pa] [] q] [] pos) (tE X.K C (.sset a)) := by
  obtain ⟨rfl, hg, hm⟩ := F.bi hx
  obtain ⟨rfl, hg2, hm2⟩ := F.bi hy
  have A := pa_cons ha pa_nil (plain_star hp)
  have B : PE X (.Call (.Name "set" p2) [pa] [] q) (tCB (rSetT X.K X.w) (tCons (tE X.K C a) tNil)) := pe_callTy (cr_setT F.calm) hg2 hm2 (by decide +kernel) A (he := plain_star hp) (hpl := rfl)
  have g : PE X (.Call (.Name "sorted" p) [.Call (.Name "set" p2) [pa] [] q] [] pos) (tCB (rSortedSet X.w) (tCons (tCB (rSetT X.K X.w) (tCons (tE X.K C a) tNil)) tNil)) :=
    pe_callB (cr_sortedSet F.calm) hg hm (by decide +kernel) (pa_cons B pa_nil rfl) (he := rfl) (hpl := rfl)
  exact g.imp fun t H Q h => by
    obtain ⟨s, M, r, w, M', hs, hm, e, q⟩ := h
    simp only [evE] at e
    obtain ⟨x, M1, e1, ea⟩ := bind_ok e
    obtain ⟨e3, rfl⟩ := opt_ok ea
    refine ⟨s, M, r, x, M', hs, hm, e1, fun r1 H1 v1 st1 m1 w1 => ?_⟩
    unfold ssetW at e3
    split at e3
    · rename_i l hl
      split at e3
      · rename_i hlen
        obtain ⟨ks, hks, rfl⟩ := Option.map_eq_some_iff.mp e3
        obtain ⟨p', vs, rfl, h2, h3⟩ := asT_rep w1 hl
        have ev := intsOf_rep h3 hks
        subst ev
        have hkl : ks.length < 64 := by have := h3.length; rw [List.length_map] at this; omega
        refine ⟨p', ks, rfl, h2.sq, hkl, fun b c hcn hb => ⟨b, _, c, rfl, upd_same, by omega, fun ns p3 hs3 hmem hl3 hp3 => ?_⟩⟩
        have e4 : ns = sortI (nub ks) := by
          have hp := sortI_perm (nub ks)
          have s2 : (sortI (nub ks)).Nodup := hp.nodup_iff.mpr (nodup_nub ks)
          refine sorted_eq (perm_of_mem (hs3.imp fun h => by omega) s2 fun z => ?_) (hs3.imp fun h => by omega) (sortI_sorted _)
          rw [hmem z, hp.mem_iff, mem_nub, decide_eq_true_eq]
        subst e4
        have g1 := st1.trans (Stp.fresh (u := SetO X.w b (fun j => decide (j ∈ ks)) c) hb)
        have m2 := m1.fresh (u := SetO X.w b (fun j => decide (j ∈ ks)) c) hb
        exact new_list m2 (fun p5 hp5 => g1.was hm m2 hp5) (.ints _) hp3 fun r' H' v st m' w' => q r' H' v (g1.trans st) m' w'
      · cases e3
    · cases e3

/-! ### str(number) -/
theorem x_tostr {a : E} {pa : Expr} (F : Fit T C X) (hp : plainE pa = true) (hx : T.bi "str" x = true) (ha : PE X pa (tE X.K C a)) : PE X (.Call (.Name x p) [pa] [] pos) (tE X.K C (.tostr a)) := by
  obtain ⟨rfl, hg, hm⟩ := F.bi hx
  exact (pe_callTy call_str_int hg hm (by decide +kernel) (pa_cons ha pa_nil (plain_star hp)) (he := plain_star hp) (hpl := rfl)).imp fun t H Q h => c1 (f := fun _ => tostrW) (ev1 fun _ _ => by simp only [evE]) (fun x H Q h => by
    obtain ⟨H0, r, M, a, w, m, hb0, ha, e, q⟩ := h
    replace e : tostrW a = some w := e
    unfold tostrW at e
    split at e
    · rename_i i
      split at e
      · rename_i hi
        cases e
        cases ha
        exact ⟨i, rfl, hi, q r H _ .refl m (.str _)⟩
      · cases e
    · cases e) h

/-! ### min of three -/
theorem x_min3 {a b c : E} {pa pb pc : Expr} (F : Fit T C X) (hp : plainE pa = true) (hq : plainE pb = true) (hr : plainE pc = true) (hx : T.bi "min" x = true) (ha : PE X pa (tE X.K C a)) (hb : PE X pb (tE X.K C b)) (hc : PE X pc (tE X.K C c)) :
    PE X (.Call (.Name x p) [pa, pb, pc] [] pos) (tE X.K C (.min3 a b c)) := by
  obtain ⟨rfl, hg, hm⟩ := F.bi hx
  exact (pe_callB (call_min3Nu F.calm) hg hm (by decide +kernel) (pa_cons ha (pa_cons hb (pa_cons hc pa_nil (plain_star hr)) (plain_star hq)) (plain_star hp)) (he := plain_star hp) (hpl := plain_any (by rw [List.all_cons, hq, List.all_cons, hr]; rfl))).imp fun t H Q h => by
    obtain ⟨s, M, r, w, M', hs, hm, e, q⟩ := h
    simp only [evE] at e
    obtain ⟨x, M1, e1, ea⟩ := bind_ok e
    obtain ⟨y, M2, e2, eb⟩ := bind_ok ea
    obtain ⟨z, M3, e3, ec⟩ := bind_ok eb
    split at ec
    · rename_i i j k
      cases ec
      refine ⟨s, M, r, _, M1, hs, hm, e1, fun r1 H1 v1 st1 m1 w1 => ?_⟩
      refine ⟨s, M1, r1, _, M2, hs.gr (st1.gr hm), m1, e2, fun r2 H2 v2 st2 m2 w2 => ?_⟩
      refine ⟨s, M2, r2, _, M', hs.gr ((st1.trans st2).gr hm), m2, e3, fun r3 H3 v3 st3 m3 w3 => ?_⟩
      cases w1
      cases w2
      cases w3
      refine ⟨_, _, _, .int (min (min i j) k), rfl, ?_, q r3 H3 _ ((st1.trans st2).trans st3) m3 (.int _)⟩
      have two : ∀ a b : Int, nuMin2 (.int a) (.int b) = some (.int (min a b)) := fun a b => by
        show some (if decide (b < a) = true then V.int b else V.int a) = _
        by_cases c : b < a
        · rw [if_pos (by simpa using c), Int.min_eq_right (by omega)]
        · rw [if_neg (by simpa using c), Int.min_eq_left (by omega)]
      show (nuMin2 (.int i) (.int j)).bind (fun m => nuMin2 m (.int k)) = _
      rw [two]
      exact two _ _
    · cases ec

/-! ### a row or another one -/
theorem x_orl {a b : E} {pa pb : Expr} (ha : PE X pa (tE X.K C a)) (hb : PE X (.BoolOp .Or [pb] pos) (tE X.K C b)) : PE X (.BoolOp .Or [pa, pb] pos) (tE X.K C (.orl a b)) :=
  (pe_orT ha hb).imp fun t H Q h => by
    obtain ⟨s, M, r, w, M', hs, hm, e, q⟩ := h
    simp only [evE] at e
    obtain ⟨x, M1, e1, ea⟩ := bind_ok e
    refine ⟨s, M, r, x, M1, hs, hm, e1, fun r1 H1 v1 st1 m1 w1 => ?_⟩
    cases hl : asL M1 x with
    | none => simp only [hl] at ea; cases ea
    | some l =>
      obtain ⟨p', vs, rfl, h2, h3⟩ := asL_rep m1 w1 hl
      cases l with
      | nil =>
        simp only [hl] at ea
        cases h3
        obtain ⟨y, M2, e2, eb⟩ := bind_ok ea
        split at eb
        · cases eb
          refine ⟨false, .inl ⟨_, h2, rfl⟩, ?_⟩
          rw [if_neg (by decide)]
          exact ⟨s, M1, r1, w, M', hs.gr (st1.gr hm), m1, e2, fun r2 H2 v2 st2 m2 w2 => q r2 H2 v2 (st1.trans st2) m2 (w2.back hm m1 st1)⟩
        · cases eb
      | cons d l =>
        simp only [hl] at ea
        cases ea
        cases h3 with
        | cons h4 h5 =>
          refine ⟨true, .inl ⟨_, h2, rfl⟩, ?_⟩
          rw [if_pos rfl]
          exact q r1 H1 _ st1 m1 w1
theorem ex_orl {a b : E} {pa pb : Expr} (ha : PE X pa (tE X.K C a)) (hb : PE X (.BoolOp .Or [pb] pos) (tE X.K C b)) : Ex X C (.orl a b) (.BoolOp .Or [pa, pb] pos) := by
  have no : ∀ {t : L2.St} {H : Hp} {Q : Bool → Hp → Prop}, tB X.K C (.orl a b) t H Q → False := fun {t H Q} h => by
    obtain ⟨s, M, r, w, M', hs, hm, e, q⟩ := h
    obtain ⟨v, M2, e2, e3⟩ := bind_ok e
    obtain ⟨e4, rfl⟩ := opt_ok e3
    simp only [evE] at e2
    obtain ⟨x, M1, e1, ea⟩ := bind_ok e2
    have nol : ∀ M z, (asL M z).isSome = true → toB z = none := fun M z hz => by
      cases z with
      | fl l => rfl
      | v d => cases d <;> first | rfl | cases hz
    cases hl : asL M1 x with
    | none => simp only [hl] at ea; cases ea
    | some l =>
      cases l with
      | nil =>
        simp only [hl] at ea
        obtain ⟨y, M2, e5, eb⟩ := bind_ok ea
        split at eb
        · rename_i l' hl'
          cases eb
          rw [nol _ _ (by rw [hl']; rfl)] at e4; cases e4
        · cases eb
      | cons d l =>
        simp only [hl] at ea
        cases ea
        rw [nol _ _ (by rw [hl]; rfl)] at e4; cases e4
  exact ⟨x_orl ha hb, ⟨fun pins s σ H Q I h => (no h).elim⟩, fun op l p hz => ⟨fun wh pins s σ H Q I h => (no h).elim⟩⟩
/-! ### a dict with one thing -/
theorem x_dlit {e : E} {z : Str} {k : Nat} {pe : Expr} {p1 : Pos} (he : PE X pe (tE X.K C e)) : PE X (.Dict [some (.Constant (.str z) k p1)] [pe] pos) (tE X.K C (.dlit z e)) :=
  (pe_disp (pps_cons (pe_str (x := z)) he pps_nil) rfl rfl (by simp) (by simp)).imp fun t H Q h => by
    intro p hp
    obtain ⟨s, M, r, w, M', hs, hm, e0, q⟩ := h
    simp only [evE] at e0
    obtain ⟨d, M1, e1, e2⟩ := bind_ok e0
    cases e2
    obtain ⟨w1, M0, e3, e4⟩ := put_ok e1
    have hnr : p ∉ r := fun hin => by obtain ⟨u, hu⟩ := hm.there hin; rw [hp] at hu; cases hu
    have f1 : Stp r H r (upd H p (.dK [])) := Stp.fresh hp
    have m1 := hm.fresh (u := .dK []) hp
    refine ⟨s, M, r, w1, M0, hs.gr (f1.gr hm), m1, e3, fun r1 H1 v1 st1 m2 rw1 => ?_⟩
    obtain ⟨r2, m3, st2, rd, g2⟩ := put_rep m1 m2 st1 rw1 e4
    have hp1 : H1 p = some (.dK []) := st2.frame p _ upd_same hnr
    have hnr2 : p ∉ r2 := fun hin => by
      rcases st2.new p hin with h | h
      · exact hnr h
      · rw [upd_same] at h; cases h
    refine ⟨hp1, [(.inr z, v1)], rfl, by simp, ?_⟩
    have ek : mergeK [] [((.inr z : Key), v1)] = [(.inr z, v1)] := rfl
    rw [ek]
    have g : Gr r2 H1 (r2 ++ [p]) (upd H1 p (.dK [(.inr z, v1)])) := ⟨⟨fun b xs hb => by rw [upd_ne (fun z => by subst z; rw [hp1] at hb; cases hb)]; exact hb, fun b o u hb => by rw [upd_ne (fun z => by subst z; rw [hp1] at hb; cases hb)]; exact hb⟩, fun n x hx => by rw [List.getElem?_append_left (List.getElem?_eq_some_iff.mp hx).1]; exact hx⟩
    have ea : (r2 ++ [p])[M1.length]? = some p := by rw [← m3.len, List.getElem?_append_right (Nat.le_refl _)]; simp
    refine q (r2 ++ [p]) _ (.ref p) ⟨st2.pre.trans (List.prefix_append _ _), fun x hx => ?_, fun a o h1 h2 => ?_⟩ ⟨by simp [m3.len], ?_, fun n x hx => ?_⟩ (.ref ea)
    · rcases List.mem_append.mp hx with h | h
      · rcases st2.new x h with h | h
        · exact .inl h
        · by_cases c : x = p
          · exact .inr (by rw [c]; exact hp)
          · rw [upd_ne c] at h; exact .inr h
      · rw [List.mem_singleton.mp h]; exact .inr hp
    · have hne : a ≠ p := fun z => by subst z; rw [hp] at h1; cases h1
      rw [upd_ne hne]
      exact st2.frame a o (by rw [upd_ne hne]; exact h1) h2
    · refine List.nodup_append.mpr ⟨m3.nd, by simp, fun x hx b hb e => ?_⟩
      rw [List.mem_singleton.mp hb] at e
      subst e
      exact hnr2 hx
    · by_cases hn : n < M1.length
      · rw [List.getElem?_append_left hn] at hx
        obtain ⟨b, h4, h5⟩ := m3.obj n x hx
        exact ⟨b, g.p _ _ h4, h5.gr g (by rw [upd_ne]; intro z; subst z; exact hnr2 (List.mem_of_getElem? h4))⟩
      · have e : n = M1.length := by
          have := (List.getElem?_eq_some_iff.mp hx).1
          simp at this; omega
        subst e
        rw [List.getElem?_append_right (Nat.le_refl _)] at hx
        simp at hx
        subst hx
        exact ⟨p, ea, [v1], upd_same, .cons (rd.gr g) .nil⟩
end
end Ev

/-! EvB12: does a small expression tell what the text says: the check, and that it suffices. -/
namespace Ev
open PySem PySem.Spec PyProof.Rows L2
def isDbg (x : Str) : Bool := x == ("__debug__" : Str)
def isCd (x : Str) : Bool := x == ("__classdict__" : Str)
def eqB (o : Bop) (op : Operator) : Bool := match o, op with
  | .add, .Add => true | .sub, .Sub => true | .mul, .Mult => true | .fdiv, .FloorDiv => true | .mod, .Mod => true | .pow, .Pow => true | _, _ => false
theorem eqB_of {o : Bop} {op : Operator} (h : eqB o op = true) : op = pyB o := by cases o <;> cases op <;> first | rfl | cases h
def eqC (o : Cop) (op : CmpOp) : Bool := match o, op with
  | .eq, .Eq => true | .ne, .NotEq => true | .lt, .Lt => true | .le, .LtE => true | .gt, .Gt => true | .ge, .GtE => true | .is, .Is => true | .isnot, .IsNot => true | .inn, .In => true | .notin, .NotIn => true | _, _ => false
theorem eqC_of {o : Cop} {op : CmpOp} (h : eqC o op = true) : op = pyC o := by cases o <;> cases op <;> first | rfl | cases h
def eqIn (neg : Bool) (op : CmpOp) : Bool := match neg, op with
  | false, .In => true | true, .NotIn => true | _, _ => false
theorem eqIn_of {neg : Bool} {op : CmpOp} (h : eqIn neg op = true) : op = if neg = true then .NotIn else .In := by cases neg <;> cases op <;> first | rfl | cases h
def ownOf (T : Nm) (ws : List Nat) : List (Str × Nat) := ws.map fun i => ((T.N[i]?).getD "", i)
theorem ownOf_snd (T : Nm) (ws : List Nat) : (ownOf T ws).map (·.2) = ws := by unfold ownOf; rw [List.map_map]; exact List.map_id' ws
def oneLine (a p : Pos) : Bool := a.endLine == p.line
mutual
def okE : E → Nm → Expr → Bool
  | .var i, T, pe => match pe with
    | .Name x _ => T.slot i x && T.vis x && !isDbg x && !isCd x
    | _ => false
  | .num i, _, pe => match pe with
    | .Constant (.int j) _ _ => decide (i = j)
    | _ => false
  | .str i, _, pe => match pe with
    | .Constant (.str j) _ _ => decide (i = j)
    | _ => false
  | .bl i, _, pe => match pe with
    | .Constant (.bool j) _ _ => decide (i = j)
    | _ => false
  | .non, _, pe => match pe with
    | .Constant .none _ _ => true
    | _ => false
  | .glb i, T, pe => match pe with
    | .Name x _ => decide (T.cn[i]? = some x) && T.glo x && !isDbg x
    | _ => false
  | .bop o a b, T, pe => match pe with
    | .BinOp pa op pb _ => eqB o op && okE a T pa && okE b T pb
    | _ => false
  | .neg a, T, pe => match pe with
    | .UnaryOp .USub pa _ => okE a T pa
    | _ => false
  | .not a, T, pe => match pe with
    | .UnaryOp .Not pa _ => okE a T pa
    | _ => false
  | .cmp o a b, T, pe => match pe with
    | .Compare pa [op] [pb] _ => eqC o op && plainE pb && okE a T pa && okE b T pb
    | _ => false
  | .chain o p a b c, T, pe => match pe with
    | .Compare pa [op, op2] [pb, pc] _ => eqC o op && eqC p op2 && !lastMarks [op, op2] [pb, pc] && okE a T pa && okE b T pb && okE c T pc
    | _ => false
  | .and a b, T, pe => match pe with
    | .BoolOp .And [pa, pb] _ => okE a T pa && okE b T pb
    | .BoolOp .And (pa :: pb :: pc :: r) p => okE a T pa && okE b T (.BoolOp .And (pb :: pc :: r) p)
    | _ => false
  | .or a b, T, pe => match pe with
    | .BoolOp .Or [pa, pb] _ => okE a T pa && okE b T pb
    | .BoolOp .Or (pa :: pb :: pc :: r) p => okE a T pa && okE b T (.BoolOp .Or (pb :: pc :: r) p)
    | _ => false
  | .ite c a b, T, pe => match pe with
    | .IfExp pc pa pb _ => okE c T pc && okE a T pa && okE b T pb
    | _ => false
  | .tup es, T, pe => match pe with
    | .Tuple pes _ _ => decide (es.len ≤ 1000) && okEs es T pes
    | _ => false
  | .lst es, T, pe => match pe with
    | .List pes _ => decide (es.len ≤ 1000) && okEs es T pes
    | _ => false
  | .ix a i, T, pe => match pe with
    | .Subscript pa pi _ => plainE pi && okE a T pa && okE i T pi
    | _ => false
  | .sl a lo hi, T, pe => match pe with
    | .Subscript pa (.Slice pl ph none _) _ => okE a T pa && okO lo T pl && okO hi T ph
    | _ => false
  | .call f es, T, pe => match pe with
    | .Call (.Name x _) pes [] _ => decide (T.dn[f]? = some x) && T.glo x && !isDbg x && okEs es T pes
    | _ => false
  | .len a, T, pe => match pe with
    | .Call (.Name x _) [pa] [] _ => plainE pa && T.bi "len" x && okE a T pa
    | _ => false
  | .abs a, T, pe => match pe with
    | .Call (.Name x _) [pa] [] _ => plainE pa && T.bi "abs" x && okE a T pa
    | _ => false
  | .toint a, T, pe => match pe with
    | .Call (.Name x _) [pa] [] _ => plainE pa && T.bi "int" x && okE a T pa
    | _ => false
  | .repr a, T, pe => match pe with
    | .Call (.Name x _) [pa] [] _ => plainE pa && T.bi "repr" x && okE a T pa
    | _ => false
  | .min2 a b, T, pe => match pe with
    | .Call (.Name x _) [pa, pb] [] _ => plainE pa && plainE pb && T.bi "min" x && okE a T pa && okE b T pb
    | _ => false
  | .max2 a b, T, pe => match pe with
    | .Call (.Name x _) [pa, pb] [] _ => plainE pa && plainE pb && T.bi "max" x && okE a T pa && okE b T pb
    | _ => false
  | .isi a t, T, pe => match pe with
    | .Call (.Name x _) [pa, .Name y _] [] _ => plainE pa && T.bi "isinstance" x && T.bi (tyS t) y && okE a T pa
    | _ => false
  | .bi f (.val a), T, pe => match pe with
    | .Call (.Name x _) [pa] [] _ => plainE pa && T.bi (biS f) x && okE a T pa
    | _ => false
  | .bi f (.rng1 a), T, pe => match pe with
    | .Call (.Name x _) [.Call (.Name y _) [pa] [] _] [] _ => (decide (f = .tuple) || decide (f = .list)) && plainE pa && T.bi (biS f) x && T.bi "range" y && okE a T pa
    | _ => false
  | .bi f (.rng2 a b), T, pe => match pe with
    | .Call (.Name x _) [.Call (.Name y _) [pa, pb] [] _] [] _ => (decide (f = .tuple) || decide (f = .list)) && plainE pa && plainE pb && T.bi (biS f) x && T.bi "range" y && okE a T pa && okE b T pb
    | _ => false
  | .bi _ _, _, _ => false
  | .app o a, T, pe => match pe with
    | .Call (.Attribute po n ap) [pa] [] p => decide (n = "append") && nosuper po && oneLine ap p && plainE pa && okE o T po && okE a T pa
    | _ => false
  | .ins o i a, T, pe => match pe with
    | .Call (.Attribute po n ap) [pi, pa] [] p => decide (n = "insert") && nosuper po && oneLine ap p && plainE pi && plainE pa && okE o T po && okE i T pi && okE a T pa
    | _ => false
  | .pop o, T, pe => match pe with
    | .Call (.Attribute po n ap) [] [] p => decide (n = "pop") && nosuper po && oneLine ap p && okE o T po
    | _ => false
  | .popi o i, T, pe => match pe with
    | .Call (.Attribute po n ap) [pi] [] p => decide (n = "pop") && nosuper po && oneLine ap p && plainE pi && okE o T po && okE i T pi
    | _ => false
  | .idx o a, T, pe => match pe with
    | .Call (.Attribute po n ap) [pa] [] p => decide (n = "index") && nosuper po && oneLine ap p && plainE pa && okE o T po && okE a T pa
    | _ => false
  | .ext o a, T, pe => match pe with
    | .Call (.Attribute po n ap) [pa] [] p => decide (n = "extend") && nosuper po && oneLine ap p && plainE pa && okE o T po && okE a T pa
    | _ => false
  | .dnew, _, pe => match pe with
    | .Dict [] [] _ => true
    | _ => false
  | .dget o i, T, pe => match pe with
    | .Subscript po pi _ => plainE pi && okE o T po && okE i T pi
    | _ => false
  | .dsort o, T, pe => match pe with
    | .Call (.Name x _) [pa] [] _ => plainE pa && T.bi "sorted" x && okE o T pa
    | _ => false
  | .dlit z e, T, pe => match pe with
    | .Dict [some (.Constant (.str y) _ _)] [pv] _ => decide (y = z) && okE e T pv
    | _ => false
  | .rev a, T, pe => match pe with
    | .Subscript pa (.Slice none none (some (.UnaryOp .USub (.Constant (.int 1) _ _) _)) _) _ => okE a T pa
    | _ => false
  | .lenset a, T, pe => match pe with
    | .Call (.Name x _) [.Call (.Name y _) [pa] [] _] [] _ => plainE pa && T.bi "len" x && T.bi "set" y && okE a T pa
    | _ => false
  | .sset a, T, pe => match pe with
    | .Call (.Name x _) [.Call (.Name y _) [pa] [] _] [] _ => plainE pa && T.bi "sorted" x && T.bi "set" y && okE a T pa
    | _ => false
  | .tostr a, T, pe => match pe with
    | .Call (.Name x _) [pa] [] _ => plainE pa && T.bi "str" x && okE a T pa
    | _ => false
  | .min3 a b c, T, pe => match pe with
    | .Call (.Name x _) [pa, pb, pc] [] _ => plainE pa && plainE pb && plainE pc && T.bi "min" x && okE a T pa && okE b T pb && okE c T pc
    | _ => false
  | .orl a b, T, pe => match pe with
    | .BoolOp .Or [pa, pb] _ => okE a T pa && okE b T pb
    | _ => false
  | .mind _ _, _, _ => false
  | .dupd _ _ _ _ _ _ _, _, _ => false
  | .din neg x o, T, pe => match pe with
    | .Compare px [op] [po] _ => eqIn neg op && plainE po && okE x T px && okE o T po
    | _ => false
  | .comp el tg it c ws, T, pe => match pe with
    | .ListComp pel [⟨ptg, pit, pifs, 0⟩] scope _ => blkC T.N T.sc scope (ownOf T ws) && (tg.slots.all fun i => ws.contains i) && plainE pit && okT (T.inn scope) tg ptg && okI it T ptg pit && okC c (T.inn scope) pifs && okE el (T.inn scope) pel
    | _ => false
def okEs : Es → Nm → List Expr → Bool
  | .nil, _, [] => true
  | .cons e r, T, pe :: pes => plainE pe && okE e T pe && okEs r T pes
  | _, _, _ => false
def okO : Eo → Nm → Option Expr → Bool
  | .none, _, none => true
  | .some e, T, some pe => okE e T pe
  | _, _, _ => false
def okC : Eo → Nm → List Expr → Bool
  | .none, _, [] => true
  | .some e, T, [pe] => okE e T pe
  | _, _, _ => false
def okI : I → Nm → Expr → Expr → Bool
  | .val e, T, _, pe => okE e T pe
  | .rng1 a, T, _, pe => match pe with
    | .Call (.Name x _) [pa] [] _ => plainE pa && T.bi "range" x && okE a T pa
    | _ => false
  | .rng2 a b, T, _, pe => match pe with
    | .Call (.Name x _) [pa, pb] [] _ => plainE pa && plainE pb && T.bi "range" x && okE a T pa && okE b T pb
    | _ => false
  | .enum e, T, ptg, pe => match ptg, pe with
    | .Tuple _ _ _, .Call (.Name x _) [pa] [] _ => plainE pa && T.bi "enumerate" x && okE e T pa
    | _, _ => false
  | .zip2 a b, T, ptg, pe => match ptg, pe with
    | .Tuple _ _ _, .Call (.Name x _) [pa, pb] [] _ => plainE pa && plainE pb && T.bi "zip" x && okE a T pa && okE b T pb
    | _, _ => false
  | .enz a b, T, ptg, pe => match ptg, pe with
    | .Tuple _ _ _, .Call (.Name x _) [.Call (.Name y _) [pa, pb] [] _] [] _ => plainE pa && plainE pb && T.bi "enumerate" x && T.bi "zip" y && okE a T pa && okE b T pb
    | _, _ => false
  | _, _, _, _ => false
end
theorem dbg_of {x : Str} (h : (!isDbg x) = true) : (x == ("__debug__" : Str)) = false := by simpa [isDbg] using h
theorem cd_of {x : Str} (h : (!isCd x) = true) : (x == ("__classdict__" : Str)) = false := by simpa [isCd] using h
variable {C : Cl}
theorem x_comp {T : Nm} {X : Cx} {el : E} {tg : Tg} {it : I} {c : Eo} {ws : List Nat} {pel ptg pit : Expr} {pifs : List Expr} {scope : Scope} {p : Pos} (F : Fit T C X)
    (h1 : blkC T.N T.sc scope (ownOf T ws) = true) (h2 : (tg.slots.all fun i => ws.contains i) = true) (h3 : plainE pit = true) (h4 : okT (T.inn scope) tg ptg = true) (hi : PI X ptg pit (tI X.K C it))
    (hc : ∀ {X' : Cx}, Fit (T.inn scope) C X' → PTs X' pifs (tC X'.K C c)) (he : ∀ {X' : Cx}, Fit (T.inn scope) C X' → PE X' pel (tE X'.K C el)) :
    PE X (.ListComp pel [⟨ptg, pit, pifs, 0⟩] scope p) (tE X.K C (.comp el tg it c ws)) := by
  have hw : ∀ i ∈ tg.slots, i ∈ ws := fun i hi => by simpa using List.all_eq_true.mp h2 i hi
  refine (pe_lc (own := ownOf T ws) (g := gT X.K tg) (tt := tC X.K C c) (te := tE X.K C el) F.calm (F.N ▸ F.nd) hi (by rw [F.N, F.sc]; exact blkOk_by h1) (fun s H A cl fp => g_tg (F.blk s H scope A cl fp) h4) (fun s H A cl fp => hc (F.blk s H scope A cl fp)) (fun s H A cl fp => he (F.blk s H scope A cl fp)) (plain_fold h3)).imp fun t H Q h => ?_
  rw [ownOf_snd]
  exact lc_imp hw h
mutual
theorem ok_E : ∀ (e : E) {T : Nm} {X : Cx} {pe : Expr}, Fit T C X → okE e T pe = true → Ex X C e pe
  | .var i, T, X, pe, F, h => by
    simp only [okE] at h
    split at h
    · simp only [Bool.and_eq_true] at h
      exact ex_plain rfl (s_var F h.1.1.1 h.1.1.2 (dbg_of h.1.2) (cd_of h.2))
    · cases h
  | .num i, T, X, pe, F, h => by
    simp only [okE] at h
    split at h
    · cases of_decide_eq_true h; exact ex_plain rfl s_num
    · cases h
  | .str i, T, X, pe, F, h => by
    simp only [okE] at h
    split at h
    · cases of_decide_eq_true h; exact ex_plain rfl s_str
    · cases h
  | .bl i, T, X, pe, F, h => by
    simp only [okE] at h
    split at h
    · cases of_decide_eq_true h; exact ex_plain rfl s_bl
    · cases h
  | .non, T, X, pe, F, h => by
    simp only [okE] at h
    split at h
    · exact ex_plain rfl s_non
    · cases h
  | .glb i, T, X, pe, F, h => by
    simp only [okE] at h
    split at h
    · simp only [Bool.and_eq_true] at h
      exact ex_plain rfl (s_glb F (of_decide_eq_true h.1.1) h.1.2 (dbg_of h.2))
    · cases h
  | .bop o a b, T, X, pe, F, h => by
    simp only [okE] at h
    split at h
    · simp only [Bool.and_eq_true] at h
      cases eqB_of h.1.1
      exact ex_plain rfl (s_bop (ok_E a F h.1.2).v (ok_E b F h.2).v)
    · cases h
  | .neg a, T, X, pe, F, h => by
    simp only [okE] at h
    split at h
    · exact ex_plain rfl (s_neg (ok_E a F h).v)
    · cases h
  | .not a, T, X, pe, F, h => by
    simp only [okE] at h
    split at h
    · exact x_not (ok_E a F h)
    · cases h
  | .cmp o a b, T, X, pe, F, h => by
    simp only [okE] at h
    split at h
    · simp only [Bool.and_eq_true] at h
      cases eqC_of h.1.1.1
      exact x_cmp F h.1.1.2 (ok_E a F h.1.2).v (ok_E b F h.2).v
    · cases h
  | .chain o p a b c, T, X, pe, F, h => by
    simp only [okE] at h
    split at h
    · simp only [Bool.and_eq_true] at h
      cases eqC_of h.1.1.1.1.1
      cases eqC_of h.1.1.1.1.2
      exact x_chain F (by simpa using h.1.1.1.2) (ok_E a F h.1.1.2).v (ok_E b F h.1.2).v (ok_E c F h.2).v
    · cases h
  | .and a b, T, X, pe, F, h => by
    simp only [okE] at h
    split at h
    · simp only [Bool.and_eq_true] at h
      have z := x_and1 (pos := ‹Pos›) (ok_E b F h.2)
      exact x_and (ok_E a F h.1) z.1 z.2
    · simp only [Bool.and_eq_true] at h
      have z := ok_E b F h.2
      exact x_and (ok_E a F h.1) z.v (z.w _ _ _ rfl)
    · cases h
  | .or a b, T, X, pe, F, h => by
    simp only [okE] at h
    split at h
    · simp only [Bool.and_eq_true] at h
      have z := x_or1 (pos := ‹Pos›) (ok_E b F h.2)
      exact x_or (ok_E a F h.1) z.1 z.2
    · simp only [Bool.and_eq_true] at h
      have z := ok_E b F h.2
      exact x_or (ok_E a F h.1) z.v (z.w _ _ _ rfl)
    · cases h
  | .ite c a b, T, X, pe, F, h => by
    simp only [okE] at h
    split at h
    · simp only [Bool.and_eq_true] at h
      exact x_ite (ok_E c F h.1.1) (ok_E a F h.1.2) (ok_E b F h.2)
    · cases h
  | .tup es, T, X, pe, F, h => by
    simp only [okE] at h
    split at h
    · simp only [Bool.and_eq_true] at h
      exact ex_plain rfl (x_tup (of_decide_eq_true h.1) (ok_Es es F h.2).1)
    · cases h
  | .lst es, T, X, pe, F, h => by
    simp only [okE] at h
    split at h
    · simp only [Bool.and_eq_true] at h
      exact ex_plain rfl (x_lst (of_decide_eq_true h.1) (ok_Es es F h.2).1)
    · cases h
  | .ix a i, T, X, pe, F, h => by
    simp only [okE] at h
    split at h
    · simp only [Bool.and_eq_true] at h
      exact ex_plain rfl (s_ix h.1.1 (ok_E a F h.1.2).v (ok_E i F h.2).v)
    · cases h
  | .sl a lo hi, T, X, pe, F, h => by
    simp only [okE] at h
    split at h
    · simp only [Bool.and_eq_true] at h
      exact ex_plain rfl (x_sl (ok_E a F h.1.1).v (ok_O lo F h.1.2) (ok_O hi F h.2))
    · cases h
  | .call f es, T, X, pe, F, h => by
    simp only [okE] at h
    split at h
    · simp only [Bool.and_eq_true] at h
      have ha := ok_Es es F h.2
      cases es with
      | nil =>
        rename_i pes _
        cases pes with
        | nil => exact ex_plain rfl (x_call0 F (of_decide_eq_true h.1.1.1) h.1.1.2 (dbg_of h.1.2))
        | cons _ _ => simp [okEs] at h
      | cons e es =>
        rename_i pes _
        cases pes with
        | nil => simp [okEs] at h
        | cons pe pes =>
          have hp := ha.2
          rw [List.all_cons, Bool.and_eq_true] at hp
          exact ex_plain rfl (x_call F (of_decide_eq_true h.1.1.1) h.1.1.2 (dbg_of h.1.2) hp.1 hp.2 ha.1)
    · cases h
  | .len a, T, X, pe, F, h => by
    simp only [okE] at h
    split at h
    · simp only [Bool.and_eq_true] at h
      exact ex_plain rfl (s_len F h.1.1 h.1.2 (ok_E a F h.2).v)
    · cases h
  | .abs a, T, X, pe, F, h => by
    simp only [okE] at h
    split at h
    · simp only [Bool.and_eq_true] at h
      exact ex_plain rfl (s_abs F h.1.1 h.1.2 (ok_E a F h.2).v)
    · cases h
  | .toint a, T, X, pe, F, h => by
    simp only [okE] at h
    split at h
    · simp only [Bool.and_eq_true] at h
      exact ex_plain rfl (s_toint F h.1.1 h.1.2 (ok_E a F h.2).v)
    · cases h
  | .repr a, T, X, pe, F, h => by
    simp only [okE] at h
    split at h
    · simp only [Bool.and_eq_true] at h
      exact ex_plain rfl (s_repr F h.1.1 h.1.2 (ok_E a F h.2).v)
    · cases h
  | .min2 a b, T, X, pe, F, h => by
    simp only [okE] at h
    split at h
    · simp only [Bool.and_eq_true] at h
      exact ex_plain rfl (s_min2 F h.1.1.1.1 h.1.1.1.2 h.1.1.2 (ok_E a F h.1.2).v (ok_E b F h.2).v)
    · cases h
  | .max2 a b, T, X, pe, F, h => by
    simp only [okE] at h
    split at h
    · simp only [Bool.and_eq_true] at h
      exact ex_plain rfl (s_max2 F h.1.1.1.1 h.1.1.1.2 h.1.1.2 (ok_E a F h.1.2).v (ok_E b F h.2).v)
    · cases h
  | .isi a t, T, X, pe, F, h => by
    simp only [okE] at h
    split at h
    · simp only [Bool.and_eq_true] at h
      exact ex_plain rfl (s_isi F h.1.1.1 h.1.1.2 h.1.2 (ok_E a F h.2).v)
    · cases h
  | .bi f (.val a), T, X, pe, F, h => by
    simp only [okE] at h
    split at h
    · simp only [Bool.and_eq_true] at h
      exact ex_plain rfl (x_bi F h.1.1 h.1.2 (ok_E a F h.2).v)
    · cases h
  | .bi f (.rng1 a), T, X, pe, F, h => by
    simp only [okE] at h
    split at h
    · simp only [Bool.and_eq_true, Bool.or_eq_true, decide_eq_true_eq] at h
      exact ex_plain rfl (x_biR1 F h.1.1.1.1 h.1.1.1.2 h.1.1.2 h.1.2 (ok_E a F h.2).v)
    · cases h
  | .bi f (.rng2 a b), T, X, pe, F, h => by
    simp only [okE] at h
    split at h
    · simp only [Bool.and_eq_true, Bool.or_eq_true, decide_eq_true_eq] at h
      exact ex_plain rfl (x_biR2 F h.1.1.1.1.1.1 h.1.1.1.1.1.2 h.1.1.1.1.2 h.1.1.1.2 h.1.1.2 (ok_E a F h.1.2).v (ok_E b F h.2).v)
    · cases h
  | .bi f (.enum _), T, X, pe, F, h => by simp [okE] at h
  | .bi f (.zip2 _ _), T, X, pe, F, h => by simp [okE] at h
  | .bi f (.zip3 _ _ _), T, X, pe, F, h => by simp [okE] at h
  | .bi f (.enz _ _), T, X, pe, F, h => by simp [okE] at h
  | .app o a, T, X, pe, F, h => by
    simp only [okE] at h
    split at h
    · simp only [Bool.and_eq_true] at h
      cases of_decide_eq_true h.1.1.1.1.1
      exact ex_plain rfl (x_app h.1.1.1.1.2 h.1.1.1.2 h.1.1.2 (ok_E o F h.1.2).v (ok_E a F h.2).v)
    · cases h
  | .ins o i a, T, X, pe, F, h => by
    simp only [okE] at h
    split at h
    · simp only [Bool.and_eq_true] at h
      cases of_decide_eq_true h.1.1.1.1.1.1.1
      exact ex_plain rfl (x_ins h.1.1.1.1.1.1.2 h.1.1.1.1.1.2 h.1.1.1.1.2 h.1.1.1.2 (ok_E o F h.1.1.2).v (ok_E i F h.1.2).v (ok_E a F h.2).v)
    · cases h
  | .pop o, T, X, pe, F, h => by
    simp only [okE] at h
    split at h
    · simp only [Bool.and_eq_true] at h
      cases of_decide_eq_true h.1.1.1
      exact ex_plain rfl (x_pop h.1.1.2 h.1.2 (ok_E o F h.2).v)
    · cases h
  | .popi o i, T, X, pe, F, h => by
    simp only [okE] at h
    split at h
    · simp only [Bool.and_eq_true] at h
      cases of_decide_eq_true h.1.1.1.1.1
      exact ex_plain rfl (x_popi h.1.1.1.1.2 h.1.1.1.2 h.1.1.2 (ok_E o F h.1.2).v (ok_E i F h.2).v)
    · cases h
  | .idx o a, T, X, pe, F, h => by
    simp only [okE] at h
    split at h
    · simp only [Bool.and_eq_true] at h
      cases of_decide_eq_true h.1.1.1.1.1
      exact ex_plain rfl (x_idx h.1.1.1.1.2 h.1.1.1.2 h.1.1.2 (ok_E o F h.1.2).v (ok_E a F h.2).v)
    · cases h
  | .ext o a, T, X, pe, F, h => by
    simp only [okE] at h
    split at h
    · simp only [Bool.and_eq_true] at h
      cases of_decide_eq_true h.1.1.1.1.1
      exact ex_plain rfl (x_ext h.1.1.1.1.2 h.1.1.1.2 h.1.1.2 (ok_E o F h.1.2).v (ok_E a F h.2).v)
    · cases h
  | .dnew, T, X, pe, F, h => by
    simp only [okE] at h
    split at h
    · exact ex_plain rfl x_dnew
    · cases h
  | .dget o i, T, X, pe, F, h => by
    simp only [okE] at h
    split at h
    · simp only [Bool.and_eq_true] at h
      exact ex_plain rfl (x_dget F h.1.1 (ok_E o F h.1.2).v (ok_E i F h.2).v)
    · cases h
  | .dsort o, T, X, pe, F, h => by
    simp only [okE] at h
    split at h
    · simp only [Bool.and_eq_true] at h
      exact ex_plain rfl (x_dsort F h.1.1 h.1.2 (ok_E o F h.2).v)
    · cases h
  | .dlit z e, T, X, pe, F, h => by
    simp only [okE] at h
    split at h
    · simp only [Bool.and_eq_true] at h
      cases of_decide_eq_true h.1
      exact ex_plain rfl (x_dlit (ok_E e F h.2).v)
    · cases h
  | .rev a, T, X, pe, F, h => by
    simp only [okE] at h
    split at h
    · exact ex_plain rfl (x_rev (ok_E a F h).v)
    · cases h
  | .lenset a, T, X, pe, F, h => by
    simp only [okE] at h
    split at h
    · simp only [Bool.and_eq_true] at h
      exact ex_plain rfl (x_lenset F h.1.1.1 h.1.1.2 h.1.2 (ok_E a F h.2).v)
    · cases h
  | .sset a, T, X, pe, F, h => by
    simp only [okE] at h
    split at h
    · simp only [Bool.and_eq_true] at h
      exact ex_plain rfl (x_sset F h.1.1.1 h.1.1.2 h.1.2 (ok_E a F h.2).v)
    · cases h
  | .tostr a, T, X, pe, F, h => by
    simp only [okE] at h
    split at h
    · simp only [Bool.and_eq_true] at h
      exact ex_plain rfl (x_tostr F h.1.1 h.1.2 (ok_E a F h.2).v)
    · cases h
  | .min3 a b c, T, X, pe, F, h => by
    simp only [okE] at h
    split at h
    · simp only [Bool.and_eq_true] at h
      exact ex_plain rfl (x_min3 F h.1.1.1.1.1.1 h.1.1.1.1.1.2 h.1.1.1.1.2 h.1.1.1.2 (ok_E a F h.1.1.2).v (ok_E b F h.1.2).v (ok_E c F h.2).v)
    · cases h
  | .orl a b, T, X, pe, F, h => by
    simp only [okE] at h
    split at h
    · simp only [Bool.and_eq_true] at h
      exact ex_orl (ok_E a F h.1).v (pe_one (ok_E b F h.2).v)
    · cases h
  | .mind _ _, T, X, pe, F, h => by simp [okE] at h
  | .dupd _ _ _ _ _ _ _, T, X, pe, F, h => by simp [okE] at h
  | .din neg x o, T, X, pe, F, h => by
    simp only [okE] at h
    split at h
    · simp only [Bool.and_eq_true] at h
      cases eqIn_of h.1.1.1
      exact x_din F h.1.1.2 (ok_E x F h.1.2).v (ok_E o F h.2).v
    · cases h
  | .comp el tg it c ws, T, X, pe, F, h => by
    simp only [okE] at h
    split at h
    · simp only [Bool.and_eq_true] at h
      exact ex_plain rfl (x_comp F h.1.1.1.1.1.1 h.1.1.1.1.1.2 h.1.1.1.1.2 h.1.1.1.2 (ok_I it F h.1.1.2) (fun F' => ok_C c F' h.1.2) fun F' => (ok_E el F' h.2).v)
    · cases h
theorem ok_Es : ∀ (es : Es) {T : Nm} {X : Cx} {pes : List Expr}, Fit T C X → okEs es T pes = true → PA X pes (tEs X.K C es) ∧ pes.all plainE = true
  | .nil, T, X, pes, F, h => by
    cases pes with
    | nil => exact ⟨a_nil, rfl⟩
    | cons _ _ => simp [okEs] at h
  | .cons e r, T, X, pes, F, h => by
    cases pes with
    | nil => simp [okEs] at h
    | cons pe pes =>
      simp only [okEs, Bool.and_eq_true] at h
      have z := ok_Es r F h.2
      exact ⟨a_cons h.1.1 (ok_E e F h.1.2).v z.1, by rw [List.all_cons, h.1.1, z.2]; rfl⟩
theorem ok_O : ∀ (e : Eo) {T : Nm} {X : Cx} {pe : Option Expr}, Fit T C X → okO e T pe = true → PO X pe (tO X.K C e)
  | .none, T, X, pe, F, h => by
    cases pe with
    | none => exact o_none
    | some _ => simp [okO] at h
  | .some e, T, X, pe, F, h => by
    cases pe with
    | none => simp [okO] at h
    | some pe =>
      simp only [okO] at h
      exact o_some (ok_E e F h).v
theorem ok_C : ∀ (e : Eo) {T : Nm} {X : Cx} {pe : List Expr}, Fit T C X → okC e T pe = true → PTs X pe (tC X.K C e)
  | .none, T, X, pe, F, h => by
    cases pe with
    | nil => exact c_none
    | cons _ _ => simp [okC] at h
  | .some e, T, X, pe, F, h => by
    cases pe with
    | nil => simp [okC] at h
    | cons pe r =>
      cases r with
      | nil =>
        simp only [okC] at h
        exact c_some (ok_E e F h).t
      | cons _ _ => simp [okC] at h
theorem ok_I : ∀ (i : I) {T : Nm} {X : Cx} {ptg pe : Expr}, Fit T C X → okI i T ptg pe = true → PI X ptg pe (tI X.K C i)
  | .val e, T, X, ptg, pe, F, h => by
    simp only [okI] at h
    exact i_val (ok_E e F h).v
  | .rng1 a, T, X, ptg, pe, F, h => by
    simp only [okI] at h
    split at h
    · simp only [Bool.and_eq_true] at h
      exact i_rng1 F h.1.1 h.1.2 (ok_E a F h.2).v
    · cases h
  | .rng2 a b, T, X, ptg, pe, F, h => by
    simp only [okI] at h
    split at h
    · simp only [Bool.and_eq_true] at h
      exact i_rng2 F h.1.1.1.1 h.1.1.1.2 h.1.1.2 (ok_E a F h.1.2).v (ok_E b F h.2).v
    · cases h
  | .enum e, T, X, ptg, pe, F, h => by
    simp only [okI] at h
    split at h
    · simp only [Bool.and_eq_true] at h
      exact i_enum F h.1.1 h.1.2 (ok_E e F h.2).v
    · cases h
  | .zip2 a b, T, X, ptg, pe, F, h => by
    simp only [okI] at h
    split at h
    · simp only [Bool.and_eq_true] at h
      exact i_zip2 F h.1.1.1.1 h.1.1.1.2 h.1.1.2 (ok_E a F h.1.2).v (ok_E b F h.2).v
    · cases h
  | .zip3 _ _ _, T, X, ptg, pe, F, h => by simp [okI] at h
  | .enz a b, T, X, ptg, pe, F, h => by
    simp only [okI] at h
    split at h
    · simp only [Bool.and_eq_true] at h
      exact i_enz F h.1.1.1.1.1 h.1.1.1.1.2 h.1.1.1.2 h.1.1.2 (ok_E a F h.1.2).v (ok_E b F h.2).v
    · cases h
end
end Ev

/-! EvB13: statements. -/
namespace Ev
open PySem PySem.Spec PyProof.Rows L2
/-- what an end is to bring -/
def FlP (K : PySem.W.Frag) (H : Hp) (r' : List Addr) (H' : Hp) (D : Ends) : Fl → Prop
  | .nx s' => ∀ σ', RS K r' H' s' σ' → D.nx σ' H'
  | .bk s' => ∀ σ', RS K r' H' s' σ' → D.bk σ' H'
  | .ct s' => ∀ σ', RS K r' H' s' σ' → D.ct σ' H'
  | .rt w => ∀ v, RW K H r' H' w v → D.rt v H'
theorem FlP.back {K : PySem.W.Frag} {r0 r1 r : List Addr} {H0 H1 H : Hp} {M0 M1 : Mem} {D : Ends} {f : Fl} (h : FlP K H0 r H D f) (m0 : RM K r0 H0 M0) (m1 : RM K r1 H1 M1) (st : Stp r0 H0 r1 H1) : FlP K H1 r H D f := by
  cases f with
  | rt w => exact fun v q => h v (q.back m0 m1 st)
  | _ => exact h
def Tf (K : PySem.W.Frag) (f : Ev.Env → Mem → Res Fl) : TS := fun D σ H => ∃ s M r fl M', RS K r H s σ ∧ RM K r H M ∧ f s M = .ok fl M' ∧ ∀ r' H', Stp r H r' H' → RM K r' H' M' → FlP K H r' H' D fl
def tS (K : PySem.W.Frag) (C : Cl) (st : S) : TS := Tf K (evS C st)
def tSs (K : PySem.W.Frag) (C : Cl) (st : Ss) : TS := Tf K (evSs C st)
section
variable {T : Nm} {C : Cl} {X : Cx} {pos : Pos}
theorem q_nil : PSs X [] (tSs X.K C .nil) := pss_nil.imp fun D σ H ⟨s, M, r, f, M', hs, hm, e, q⟩ => by
  simp only [evSs] at e
  cases e
  exact q r H .refl hm σ hs
theorem q_cons {a : S} {b : Ss} {pa : Stmt} {pb : List Stmt} (ha : PS X pa (tS X.K C a)) (hb : PSs X pb (tSs X.K C b)) : PSs X (pa :: pb) (tSs X.K C (.cons a b)) := (pss_cons ha hb).imp fun D σ H ⟨s, M, r, f, M', hs, hm, e, q⟩ => by
  simp only [evSs] at e
  obtain ⟨f1, M1, e1, e2⟩ := bind_ok e
  refine ⟨s, M, r, f1, M1, hs, hm, e1, fun r1 H1 st1 m1 => ?_⟩
  cases f1 with
  | nx s1 => exact fun σ1 rs1 => ⟨s1, M1, r1, f, M', rs1, m1, e2, fun r2 H2 st2 m2 => (q r2 H2 (st1.trans st2) m2).back hm m1 st1⟩
  | bk s1 => cases e2; exact q r1 H1 st1 m1
  | ct s1 => cases e2; exact q r1 H1 st1 m1
  | rt w => cases e2; exact q r1 H1 st1 m1
/-! ### assignments -/
theorem asg_name {e : E} {i : Nat} {D : Ends} {σ : L2.St} {H : Hp} (h : tS X.K C (.asg (.nm i) e) D σ H) : tE X.K C e σ H fun x H1 => gName i x σ H1 D.nx := by
  obtain ⟨s, M, r, f, M', hs, hm, e, q⟩ := h
  simp only [evS] at e
  obtain ⟨w, M1, e1, e2⟩ := bind_ok e
  have e3 : asgW (.nm i) M1 w s = some (s.set i (some (put w M1).1), (put w M1).2) := by cases w <;> rfl
  rw [e3] at e2
  cases e2
  refine ⟨s, M, r, w, M1, hs, hm, e1, fun r1 H1 v1 st1 m1 w1 => ?_⟩
  obtain ⟨r2, m2, st2, rd, g⟩ := put_rep hm m1 st1 w1 rfl
  exact q r2 H1 st2 m2 _ ((hs.gr (st2.gr hm)).set rd i)
def plainV : Expr → Bool
  | .ListComp _ _ _ _ => false
  | .SetComp _ _ _ _ => false
  | .DictComp _ _ _ _ _ => false
  | _ => true
theorem sw_plain {e : Expr} {t : Option Expr} {n : Nat} {env : PySem.Env} (h : plainV e = true) : swapsWith e t n env = pure false := by
  cases e <;> first | rfl | cases h
theorem q_set {e : E} {i : Nat} {x : Str} {pe : Expr} {p : Pos} (F : Fit T C X) (h1 : T.slot i x = true) (h2 : T.sto x = true) (hv : plainV pe = true) (he : PE X pe (tE X.K C e)) : PS X (.Assign [.Name x p] pe pos) (tS X.K C (.asg (.nm i) e)) := by
  obtain ⟨hl, hf⟩ := F.loc h2
  exact (ps_set (F.N ▸ F.nd) (F.slot h1) hl he (sw_plain hv) hf).imp fun D σ H h => asg_name h
theorem blockK {pins : List (Addr × Obj)} {σ : L2.St} {H : Hp} {s : Shared} (I : Inv X pins σ H s) : (X.env.blockKind == ScopeKind.function) = true := by
  unfold PySem.Env.blockKind
  rw [I.ok.kind]
  rfl
def lcSwap (T : Nm) (x : Str) (p q : Pos) (scope : Scope) : Bool := T.sc.names.lookup x == some .local && p.line == q.line && !(scope.names.any fun (n, k) => n == x && (k == .local || k == .cell))
theorem q_setLc {el : E} {tg : Tg} {it : I} {c : Eo} {ws : List Nat} {i : Nat} {x : Str} {pel ptg pit : Expr} {pifs : List Expr} {scope : Scope} {p p2 : Pos} (F : Fit T C X) (h1 : T.slot i x = true) (hsw : lcSwap T x p p2 scope = true)
    (hb : blkC T.N T.sc scope (ownOf T ws) = true) (h2 : (tg.slots.all fun i => ws.contains i) = true) (h3 : plainE pit = true) (h4 : okT (T.inn scope) tg ptg = true) (hi : okI it T ptg pit = true) (hc : okC c (T.inn scope) pifs = true) (he : okE el (T.inn scope) pel = true) :
    PS X (.Assign [.Name x p] (.ListComp pel [⟨ptg, pit, pifs, 0⟩] scope p2) pos) (tS X.K C (.asg (.nm i) (.comp el tg it c ws))) := by
  have hw : ∀ i ∈ tg.slots, i ∈ ws := fun i hi => by simpa using List.all_eq_true.mp h2 i hi
  refine ⟨fun pins s σ H D I h => ?_⟩
  have hl : X.env.scope.names.lookup x = some .local := by
    rw [F.sc]
    unfold lcSwap at hsw
    simp only [Bool.and_eq_true, beq_iff_eq] at hsw
    exact hsw.1.1
  have sw : swapsWith (.ListComp pel [⟨ptg, pit, pifs, 0⟩] scope p2) (some (.Name x p)) pos.line X.env = pure true := by
    show (pure (X.env.blockKind == ScopeKind.function && X.env.kindOf x == some .local && p.line == p2.line && !(scope.names.any fun (n, k) => n == x && (k == .local || k == .cell))) : Sem Bool) = pure true
    unfold lcSwap at hsw
    rw [blockK I]
    have : X.env.kindOf x = T.sc.names.lookup x := by unfold PySem.Env.kindOf; rw [F.sc]
    rw [this, Bool.true_and, hsw]
  have r := ps_setLc (own := ownOf T ws) (g := gT X.K tg) (tt := tC X.K C c) (te := tE X.K C el) F.calm (F.N ▸ F.nd) (F.slot h1) hl sw (ok_I it F hi) (by rw [F.N, F.sc]; exact blkOk_by hb) (fun s H A cl fp => g_tg (F.blk s H scope A cl fp) h4) (fun s H A cl fp => ok_C c (F.blk s H scope A cl fp) hc) (fun s H A cl fp => (ok_E el (F.blk s H scope A cl fp) he).v) (plain_fold h3)
  refine r.run pins s σ H D I ?_
  show tLc _ _ _ _ _ σ H _
  rw [ownOf_snd]
  exact lc_imp hw (asg_name h)
theorem q_setLcN {e : E} {i : Nat} {x : Str} {pel : Expr} {gs : List Comprehension} {scope : Scope} {p p2 : Pos} (F : Fit T C X) (h1 : T.slot i x = true) (h2 : T.sto x = true) (hsw : lcSwap T x p p2 scope = false) (he : PE X (.ListComp pel gs scope p2) (tE X.K C e)) :
    PS X (.Assign [.Name x p] (.ListComp pel gs scope p2) pos) (tS X.K C (.asg (.nm i) e)) := by
  obtain ⟨hl, hf⟩ := F.loc h2
  refine ⟨fun pins s σ H D I h => ?_⟩
  have sw : swapsWith (.ListComp pel gs scope p2) (some (.Name x p)) pos.line X.env = pure false := by
    show (pure (X.env.blockKind == ScopeKind.function && X.env.kindOf x == some .local && p.line == p2.line && !(scope.names.any fun (n, k) => n == x && (k == .local || k == .cell))) : Sem Bool) = pure false
    unfold lcSwap at hsw
    rw [blockK I]
    have : X.env.kindOf x = T.sc.names.lookup x := by unfold PySem.Env.kindOf; rw [F.sc]
    rw [this, Bool.true_and, hsw]
  exact (ps_set (F.N ▸ F.nd) (F.slot h1) hl he sw hf).run pins s σ H D I (asg_name h)
def gTl (K : PySem.W.Frag) (ts : Tgs) : TG := fun v σ H Q => gTup K ts.len (gTs K ts) v σ H Q ∨ gUnl K ts.len (gTs K ts) v σ H Q
theorem q_tup {e : E} {ts : Tgs} {pts : List Expr} {pe : Expr} {k : Nat} {p : Pos} (F : Fit T C X) (h : okTs T ts pts = true) (hw : ∀ env, swappedStores [.Tuple pts k p] pe env = pure none) (he : PE X pe (tE X.K C e)) :
    PS X (.Assign [.Tuple pts k p] pe pos) (tS X.K C (.asg (.tp ts) e)) := by
  obtain ⟨h1, h2, h3⟩ := g_tgs F h
  have g : PG X (.Tuple pts k p) (gTl X.K ts) := ⟨fun pins s σ H v u Q I r q => by
    rcases q with q | q
    · exact (pg_tup F.calm h1 h2 h3).run pins s σ H v u Q I r q
    · exact (pg_unl F.calm h1 h2 h3).run pins s σ H v u Q I r q⟩
  refine (ps_asg he g (by cases pe <;> rfl) (hw _) rfl).imp fun D σ H h => ?_
  obtain ⟨s, M, r, f, M', hs, hm, e, q⟩ := h
  simp only [evS] at e
  obtain ⟨w, M1, e1, e2⟩ := bind_ok e
  refine ⟨s, M, r, w, M1, hs, hm, e1, fun r1 H1 v1 st1 m1 w1 => ?_⟩
  cases w with
  | fl l =>
    obtain ⟨a, vs, rfl, h0, h5, h6, rds⟩ := w1
    cases es : asgTs ts l s with
    | none => simp only [asgW, es] at e2; cases e2
    | some s1 =>
      simp only [asgW, es] at e2
      cases e2
      exact .inr ⟨a, vs, rfl, SqL.of h5, by rw [← rds.length]; exact asgTs_len es, s, M', r1, l, s1, hs.gr (st1.gr hm), m1, rds, es, fun σ' rs' _ => q r1 H1 st1 m1 σ' rs'⟩
  | v d =>
    cases d with
    | tup l =>
      cases es : asgTs ts l s with
      | none => simp only [asgW, put, asgT, es] at e2; cases e2
      | some s1 =>
        simp only [asgW, put, asgT, es] at e2
        cases e2
        cases w1 with
        | tup h4 h5 => exact .inl ⟨_, _, rfl, h4.sq, by rw [← h5.length]; exact asgTs_len es, s, M', r1, l, s1, hs.gr (st1.gr hm), m1, h5, es, fun σ' rs' _ => q r1 H1 st1 m1 σ' rs'⟩
    | _ => simp only [asgW, put, asgT] at e2; cases e2
end
end Ev

/-! EvB14: statements, second part. -/
namespace Ev
open PySem PySem.Spec PyProof.Rows L2
section
variable {T : Nm} {C : Cl} {X : Cx} {pos : Pos}
/-! ### a, b = x, y; a, b, c = x, y, z -/
def par2 (T : Nm) (x y : Str) (px py : Pos) (a b : Expr) : Bool := T.sc.names.lookup x == some .local && T.sc.names.lookup y == some .local && px.line == py.line && !(y == x) && noStar a && noStar b && !([a, b].all (foldedForSure 8)) && !([a, b].all (constantsAlone 8))
def par3 (T : Nm) (x y z : Str) (px py pz : Pos) (a b c : Expr) : Bool := T.sc.names.lookup x == some .local && T.sc.names.lookup y == some .local && T.sc.names.lookup z == some .local && px.line == py.line && px.line == pz.line && !(y == x) && !(z == x) && !(z == y) && noStar a && noStar b && noStar c && !([a, b, c].all (foldedForSure 8)) && !([a, b, c].all (constantsAlone 8))
theorem star_any : ∀ {a : Expr}, noStar a = true → (match a with | .Starred _ _ => true | _ => false) = false := by intro a h; cases a <;> first | rfl | cases h
theorem swap2 {x y : Str} {px py pt pt2 : Pos} {kt k2} {a b : Expr} (F : Fit T C X) (hk : (X.env.blockKind == ScopeKind.function) = true) (h : par2 T x y px py a b = true) :
    swappedStores [.Tuple [.Name x px, .Name y py] kt pt] (.Tuple [a, b] k2 pt2) X.env = pure (some [x, y]) := by
  unfold par2 at h
  simp only [Bool.and_eq_true, Bool.not_eq_true'] at h
  obtain ⟨⟨⟨⟨⟨⟨⟨h1, h2⟩, h3⟩, h4⟩, h5⟩, h6⟩, h7⟩, h8⟩ := h
  have k1 : X.env.kindOf x = some .local := by unfold PySem.Env.kindOf; rw [F.sc]; simpa using h1
  have k2 : X.env.kindOf y = some .local := by unfold PySem.Env.kindOf; rw [F.sc]; simpa using h2
  have n1 := star_any h5
  have n2 := star_any h6
  have l1 : (py.line == px.line) = true := by rw [beq_iff_eq] at h3 ⊢; exact h3.symm
  have b1 : (X.env.blockKind != ScopeKind.function) = false := by unfold bne; rw [hk]; rfl
  unfold swappedStores
  have l2 : py.line = px.line := by rw [beq_iff_eq] at l1; exact l1
  simp [List.filterMap_cons, k1, k2, n1, n2, l2, b1, h4, h7, h8, List.eraseDups, List.eraseDupsBy, List.eraseDupsBy.loop, Expr.pos]
  intro z
  rcases z with z | z
  · exact Bool.noConfusion (n1.symm.trans z)
  · exact Bool.noConfusion (n2.symm.trans z)
theorem swap3 {x y z : Str} {px py pz pt pt2 : Pos} {kt k2} {a b c : Expr} (F : Fit T C X) (hk : (X.env.blockKind == ScopeKind.function) = true) (h : par3 T x y z px py pz a b c = true) :
    swappedStores [.Tuple [.Name x px, .Name y py, .Name z pz] kt pt] (.Tuple [a, b, c] k2 pt2) X.env = pure (some [x, y, z]) := by
  unfold par3 at h
  simp only [Bool.and_eq_true, Bool.not_eq_true'] at h
  obtain ⟨⟨⟨⟨⟨⟨⟨⟨⟨⟨⟨⟨h1, h2⟩, h0⟩, h3⟩, h3'⟩, h4⟩, h4'⟩, h4''⟩, h5⟩, h6⟩, h6'⟩, h7⟩, h8⟩ := h
  have k1 : X.env.kindOf x = some .local := by unfold PySem.Env.kindOf; rw [F.sc]; simpa using h1
  have k2 : X.env.kindOf y = some .local := by unfold PySem.Env.kindOf; rw [F.sc]; simpa using h2
  have k3 : X.env.kindOf z = some .local := by unfold PySem.Env.kindOf; rw [F.sc]; simpa using h0
  have n1 := star_any h5
  have n2 := star_any h6
  have n3 := star_any h6'
  have l1 : (py.line == px.line) = true := by rw [beq_iff_eq] at h3 ⊢; exact h3.symm
  have l2 : py.line = px.line := by rw [beq_iff_eq] at l1; exact l1
  have l3 : pz.line = px.line := by rw [beq_iff_eq] at h3'; exact h3'.symm
  have b1 : (X.env.blockKind != ScopeKind.function) = false := by unfold bne; rw [hk]; rfl
  unfold swappedStores
  simp [List.filterMap_cons, k1, k2, k3, n1, n2, n3, l2, l3, b1, h4, h4', h4'', h7, h8, List.eraseDups, List.eraseDupsBy, List.eraseDupsBy.loop, Expr.pos]
  intro u
  rcases u with u | u | u
  · exact Bool.noConfusion (n1.symm.trans u)
  · exact Bool.noConfusion (n2.symm.trans u)
  · exact Bool.noConfusion (n3.symm.trans u)
theorem q_par2 {i j : Nat} {es : Es} {x y : Str} {a b : Expr} {px py pt pt2 : Pos} {kt k2} (F : Fit T C X) (h1 : T.slot i x = true) (h2 : T.slot j y = true) (hij : i ≠ j) (hp : par2 T x y px py a b = true) (ha : PA X [a, b] (tEs X.K C es)) :
    PS X (.Assign [.Tuple [.Name x px, .Name y py] kt pt] (.Tuple [a, b] k2 pt2) pos) (tS X.K C (.par [i, j] es)) := by
  refine ⟨fun pins s σ H D I h => ?_⟩
  have hp' := hp
  unfold par2 at hp'
  simp only [Bool.and_eq_true, beq_iff_eq] at hp'
  have hx : X.env.scope.names.lookup x = some .local := by rw [F.sc]; exact hp'.1.1.1.1.1.1.1
  have hy : X.env.scope.names.lookup y = some .local := by rw [F.sc]; exact hp'.1.1.1.1.1.1.2
  refine (ps_par F.calm (F.N ▸ F.nd) (F.slot h1) (F.slot h2) hij hx hy ha (swap2 F (blockK I) hp)).run pins s σ H D I ?_
  obtain ⟨s, M, r, f, M', hs, hm, e, q⟩ := h
  simp only [evS] at e
  obtain ⟨l, M1, e1, e2⟩ := bind_ok e
  split at e2
  · rename_i s' es'
    cases e2
    refine ⟨s, M, r, l, M', hs, hm, e1, fun r1 H1 vs st1 m1 rds => ?_⟩
    cases rds with
    | nil => simp [setAll] at es'
    | cons d1 t =>
      cases t with
      | nil => simp [setAll] at es'
      | cons d2 t =>
        cases t with
        | nil =>
          simp only [setAll] at es'
          cases es'
          exact ⟨_, _, rfl, q r1 H1 st1 m1 _ (((hs.gr (st1.gr hm)).set d1 i).set d2 j)⟩
        | cons _ _ => simp [setAll] at es'
  · cases e2
def tPar3 (i j k : Nat) (ta : TA) : TS := fun D σ H => ta σ H fun vs H1 => ∃ v w z, vs = [v, w, z] ∧ D.nx (((σ.set i (some v)).set j (some w)).set k (some z)) H1
theorem ps_par3 {i j k : Nat} {x y z : Str} {a b c : Expr} {ta : TA} {px py pz pt : Pos} {kt k2 pt2} (hc : X.calm = true) (hN : X.N.Nodup) (hi : X.N[i]? = some x) (hj : X.N[j]? = some y) (hk : X.N[k]? = some z) (hij : i ≠ j) (hik : i ≠ k) (hjk : j ≠ k)
    (hx : X.env.scope.names.lookup x = some .local) (hy : X.env.scope.names.lookup y = some .local) (hz : X.env.scope.names.lookup z = some .local) (ha : PA X [a, b, c] ta)
    (hw : swappedStores [.Tuple [.Name x px, .Name y py, .Name z pz] kt pt] (.Tuple [a, b, c] k2 pt2) X.env = pure (some [x, y, z]))
    (hs : swapsWithSole [.Tuple [.Name x px, .Name y py, .Name z pz] kt pt] (.Tuple [a, b, c] k2 pt2) pos.line X.env = pure false := by rfl) :
    PS X (.Assign [.Tuple [.Name x px, .Name y py, .Name z pz] kt pt] (.Tuple [a, b, c] k2 pt2) pos) (tPar3 i j k ta) := by
  refine ⟨fun pins s σ H D I h => ?_⟩
  rw [exec_Assign_arm]
  refine wpAny_bind (wpAny_standAt ?_)
  rw [hs]
  refine wpAny_bind (wpAny_pure ?_)
  rw [if_neg (by decide)]
  refine wpAny_bind (Tuple_ (thn (ha.run _ pins s σ H _ I h) fun us s1 ⟨vs, H1, I1, r1, q1⟩ => ?_))
  obtain ⟨v, w, z', e1, q1⟩ := q1
  subst e1
  obtain ⟨u1, u2, u3, rfl, rv, rw', rz⟩ : ∃ u1 u2 u3, us = [u1, u2, u3] ∧ RelV v u1 ∧ RelV w u2 ∧ RelV z' u3 := by
    cases r1 with
    | cons p q =>
      cases q with
      | cons p' q' =>
        cases q' with
        | cons p'' q'' =>
          cases q''
          exact ⟨_, _, _, rfl, p, p', p''⟩
  refine wpAny_newObj_type ?_ (by show 3 ≤ sizeLine; decide)
  have I2 : Inv X pins σ H1 { s1 with heap := s1.heap.push { cls := .type "tuple", data := .seq [u1, u2, u3].toArray } } := I1.kept (t' := s1.toks) fun b o e => Heap.get?_push_of_some _ e
  rw [hw]
  refine wpAny_bind (wpAny_pure ?_)
  show wpAny (model X.prog X.w) X.A (do rule "assign.swapped-stores"; let items ← unpackItems (.ref s1.heap.objs.size) 3 none; assignInOrder [fun v => bindName X.env z v, fun v => bindName X.env y v, fun v => bindName X.env x v] items.reverse; pure Flow.next) _ _ _
  refine wpAny_bind (wpAny_rule (wpAny_bind (unpackItems_tuple (items := #[u1, u2, u3]) (I.ok.hd hc) (IsTup.new s1.heap _) fun h' hx' => ?_)))
  have I3 := I2.kept (h' := h') (t' := s1.toks) fun b o e => hx' b o (Nat.ne_of_lt (Heap.lt_size e)) e
  show wpAny _ _ (assignInOrder [fun v => bindName X.env z v, fun v => bindName X.env y v, fun v => bindName X.env x v] [u3, u2, u1] >>= fun _ => pure Flow.next) _ _ _
  refine wpAny_bind (assignInOrder_cons (wpAny_bindName (store_ok I3 hN hk (.inl hz) rz (fun s2 I4 => ?_) (.inr hz))))
  refine assignInOrder_cons (wpAny_bindName (store_ok I4 hN hj (.inl hy) rw' (fun s3 I5 => ?_) (.inr hy)))
  refine assignInOrder_cons (wpAny_bindName (store_ok I5 hN hi (.inl hx) rv (fun s4 I6 => assignInOrder_nil (wpAny_pure ?_)) (.inr hx)))
  rw [List.set_comm _ _ (Ne.symm hjk), List.set_comm _ _ (Ne.symm hik), List.set_comm _ _ (Ne.symm hij)] at I6
  exact ⟨_, H1, I6, q1⟩
theorem q_par3 {i j k : Nat} {es : Es} {x y z : Str} {a b c : Expr} {px py pz pt pt2 : Pos} {kt k2} (F : Fit T C X) (h1 : T.slot i x = true) (h2 : T.slot j y = true) (h3 : T.slot k z = true) (hij : i ≠ j) (hik : i ≠ k) (hjk : j ≠ k) (hp : par3 T x y z px py pz a b c = true) (ha : PA X [a, b, c] (tEs X.K C es)) :
    PS X (.Assign [.Tuple [.Name x px, .Name y py, .Name z pz] kt pt] (.Tuple [a, b, c] k2 pt2) pos) (tS X.K C (.par [i, j, k] es)) := by
  refine ⟨fun pins s σ H D I h => ?_⟩
  have hp' := hp
  unfold par3 at hp'
  simp only [Bool.and_eq_true, beq_iff_eq] at hp'
  have hx : X.env.scope.names.lookup x = some .local := by rw [F.sc]; exact hp'.1.1.1.1.1.1.1.1.1.1.1.1
  have hy : X.env.scope.names.lookup y = some .local := by rw [F.sc]; exact hp'.1.1.1.1.1.1.1.1.1.1.1.2
  have hz : X.env.scope.names.lookup z = some .local := by rw [F.sc]; exact hp'.1.1.1.1.1.1.1.1.1.1.2
  refine (ps_par3 F.calm (F.N ▸ F.nd) (F.slot h1) (F.slot h2) (F.slot h3) hij hik hjk hx hy hz ha (swap3 F (blockK I) hp)).run pins s σ H D I ?_
  obtain ⟨s, M, r, f, M', hs, hm, e, q⟩ := h
  simp only [evS] at e
  obtain ⟨l, M1, e1, e2⟩ := bind_ok e
  split at e2
  · rename_i s' es'
    cases e2
    refine ⟨s, M, r, l, M', hs, hm, e1, fun r1 H1 vs st1 m1 rds => ?_⟩
    cases rds with
    | nil => simp [setAll] at es'
    | cons d1 t =>
      cases t with
      | nil => simp [setAll] at es'
      | cons d2 t =>
        cases t with
        | nil => simp [setAll] at es'
        | cons d3 t =>
          cases t with
          | nil =>
            simp only [setAll] at es'
            cases es'
            exact ⟨_, _, _, rfl, q r1 H1 st1 m1 _ ((((hs.gr (st1.gr hm)).set d1 i).set d2 j).set d3 k)⟩
          | cons _ _ => simp [setAll] at es'
  · cases e2

/-! ### stores in lists -/
theorem q_setix {o i a : E} {po pi pa : Expr} {sp : Pos} (hp : plainE pi = true) (ho : PE X po (tE X.K C o)) (hi : PE X pi (tE X.K C i)) (ha : PE X pa (tE X.K C a)) : PS X (.Assign [.Subscript po pi sp] pa pos) (tS X.K C (.setix o i a)) := by
  refine (ps_asg ha (pg_sub ho hi set_list (by intro v; cases pi <;> first | rfl | cases hp)) (by cases pa <;> rfl) (by cases pa <;> rfl) rfl).imp fun D σ H h => ?_
  obtain ⟨s, M, r, f, M', hs, hm, e, q⟩ := h
  simp only [evS] at e
  obtain ⟨d, M1, e1, ea⟩ := bind_ok e
  obtain ⟨w0, M0, e0, ep⟩ := put_ok e1
  obtain ⟨w, M2, e2, eb⟩ := bind_ok ea
  obtain ⟨k, M3, e3, ec⟩ := bind_ok eb
  refine ⟨s, M, r, w0, M0, hs, hm, e0, fun r0 H0 v0 st0 m0 w0 => ?_⟩
  obtain ⟨r1, m1, st1, rd, g⟩ := put_rep hm m0 st0 w0 ep
  refine ⟨s, M1, r1, w, M2, hs.gr (st1.gr hm), m1, e2, fun r2 H2 v2 st2 m2 w2 => ?_⟩
  refine ⟨s, M2, r2, k, M3, hs.gr ((st1.trans st2).gr hm), m2, e3, fun r3 H3 v3 st3 m3 w3 => ?_⟩
  split at ec
  · rename_i n k'
    split at ec
    · rename_i l hl
      split at ec
      · rename_i j hj
        cases ec
        cases w2 with
        | ref hn =>
          have hn3 := (st3.gr m2).p _ _ hn
          obtain ⟨vs, hv, rds⟩ := at_lst m3 hl hn3
          obtain ⟨m4, st4⟩ := lwrite m3 hn3 hv (rds.set (rd.gr ((st2.trans st3).gr m1)) j)
          cases w3
          have st := ((st1.trans st2).trans st3).trans st4
          exact ⟨_, vs, k', j, rfl, rfl, hv, by rw [← rds.length]; exact hj, q r3 _ st m4 _ (hs.gr (st.gr hm))⟩
      · cases ec
    · cases ec
  · cases ec
theorem q_dset (F : Fit T C X) {o i a : E} {po pi pa : Expr} {sp : Pos} (hp : plainE pi = true) (ho : PE X po (tE X.K C o)) (hi : PE X pi (tE X.K C i)) (ha : PE X pa (tE X.K C a)) : PS X (.Assign [.Subscript po pi sp] pa pos) (tS X.K C (.dset o i a)) := by
  refine (ps_dput (by have := F.un; omega) ho hi ha (by cases pa <;> rfl)).imp fun D σ H h => ?_
  obtain ⟨s, M, r, f, M', hs, hm, e, q⟩ := h
  simp only [evS] at e
  obtain ⟨d, M1, e1, ea⟩ := bind_ok e
  obtain ⟨w0, M0, e0, ep⟩ := put_ok e1
  obtain ⟨w, M2, e2, eb⟩ := bind_ok ea
  obtain ⟨k, M3, e3, ec⟩ := bind_ok eb
  refine ⟨s, M, r, w0, M0, hs, hm, e0, fun r0 H0 v0 st0 m0 w0 => ?_⟩
  obtain ⟨r1, m1, st1, rd, g⟩ := put_rep hm m0 st0 w0 ep
  refine ⟨s, M1, r1, w, M2, hs.gr (st1.gr hm), m1, e2, fun r2 H2 v2 st2 m2 w2 => ?_⟩
  refine ⟨s, M2, r2, k, M3, hs.gr ((st1.trans st2).gr hm), m2, e3, fun r3 H3 v3 st3 m3 w3 => ?_⟩
  split at ec
  · rename_i n k'
    split at ec
    · rename_i l kk hl hk
      split at ec
      · rename_i hz
        cases ec
        cases w2 with
        | ref hn =>
          have hn3 := (st3.gr m2).p _ _ hn
          obtain ⟨vs, hv, rds⟩ := at_dct m3 hl hn3
          obtain ⟨vs', h1, h2⟩ := dput_rep (k := kk) (rd.gr ((st2.trans st3).gr m1)) rds
          obtain ⟨m4, st4⟩ := dwrite m3 hn3 hv h2
          have ek := keyD_rep hk w3
          subst ek
          have st := ((st1.trans st2).trans st3).trans st4
          refine ⟨_, _, rfl, DPut.k hv ?_, ?_⟩
          · rw [List.length_zip, List.length_map, sizeLine_eq]
            omega
          · rw [h1]
            exact q r3 _ st m4 _ (hs.gr (st.gr hm))
      · cases ec
    · cases ec
  · cases ec
end
end Ev

/-! EvB15: statements, third part; the check of statements. -/
namespace Ev
open PySem PySem.Spec PyProof.Rows L2
section
variable {T : Nm} {C : Cl} {X : Cx} {pos : Pos}
def tGetL : V → V → Hp → VK → Prop := fun o i H Q => ∃ p xs k v, o = .ref p ∧ i = .int k ∧ H p = some (.lst xs) ∧ 0 ≤ k ∧ xs[k.toNat]? = some v ∧ Q v H
theorem get_listG : PGet X tGetL := by
  intro pins s σ H o i ov iv Q I ro ri h
  obtain ⟨p, xs, k, z, rfl, rfl, hq, h0, he, q⟩ := h
  cases ro
  obtain ⟨t, rfl⟩ := ri
  obtain ⟨its, r, pl, hz⟩ := I.list (SqL.of hq)
  obtain ⟨w, ew, rw'⟩ := r.get he
  have hl := r.length
  have hn := line63
  have hk : k.toNat < xs.length := (List.getElem?_eq_some_iff.mp he).1
  exact wpAny_getItem_list pl.isList h0 (by omega) (by simpa using ew) ⟨z, H, I, rw', q⟩
theorem q_augix {f : Bop} {o i a : E} {op : Operator} {po pi pa : Expr} {sp : Pos} (hf : f = .add ∨ f = .sub) (hop : eqB f op = true) (hp : plainE pi = true) (ho : PE X po (tE X.K C o)) (hi : PE X pi (tE X.K C i)) (ha : PE X pa (tE X.K C a)) :
    PS X (.AugAssign (.Subscript po pi sp) op pa pos) (tS X.K C (.augix f o i a)) := by
  cases eqB_of hop
  have key : ∀ (g : Int → Int → Int), (∀ M s, evS C (.augix f o i a) s M = (evE C o s M).bind fun w M1 => (evE C i s M1).bind fun k M2 => match w, k with
    | .v (.ref n), .v (.int k) => match M2[n]? with
      | some (.lst l) => if k < 0 then .no else match seqIx l.length k with
        | some j => match l[j]? with
          | some (.int x) => (evE C a s M2).bind fun y M3 => match y with
            | .v (.int b) => match M3[n]? with
              | some (.lst l') => if l'.length = l.length then .ok (.nx s) (M3.set n (.lst (l'.set j (.int (g x b))))) else .no
              | _ => .no
            | _ => .no
          | _ => .no
        | none => .no
      | _ => .no
    | _, _ => .no) → ∀ D σ H, tS X.K C (.augix f o i a) D σ H → tAugS (tE X.K C o) (tE X.K C i) (tE X.K C a) tGetL (ipI g) rSetL D σ H := by
    intro g hg D σ H h
    obtain ⟨s, M, r, fl, M', hs, hm, e, q⟩ := h
    unfold tS at *
    rw [hg] at e
    obtain ⟨w, M1, e1, ea⟩ := bind_ok e
    obtain ⟨k, M2, e2, eb⟩ := bind_ok ea
    clear e ea
    refine ⟨s, M, r, w, M1, hs, hm, e1, fun r1 H1 v1 st1 m1 w1 => ?_⟩
    refine ⟨s, M1, r1, k, M2, hs.gr (st1.gr hm), m1, e2, fun r2 H2 v2 st2 m2 w2 => ?_⟩
    split at eb
    · rename_i n k'
      split at eb
      · rename_i l hl
        split at eb
        · cases eb
        rename_i h0
        split at eb
        · rename_i j hj
          split at eb
          · rename_i x hx
            obtain ⟨y, M3, e3, ec⟩ := bind_ok eb
            clear eb
            cases w1 with
            | ref hn =>
              cases w2
              have hn2 := (st2.gr m1).p _ _ hn
              obtain ⟨vs, hv, rds⟩ := at_lst m2 hl hn2
              obtain ⟨v, hv2, hv3⟩ := rds.get hx
              cases hv3
              have hjk : j = k'.toNat := by
                have z := (ixN_seq hj).1
                rw [seqIndex_of (by omega) (ixN_seq hj).2.2.2] at z
                exact (Option.some.inj z).symm
              refine ⟨_, vs, k', _, rfl, rfl, hv, by omega, by rw [← hjk]; exact hv2, ?_⟩
              refine ⟨s, M2, r2, y, M3, hs.gr ((st1.trans st2).gr hm), m2, e3, fun r3 H3 v3 st3 m3 w3 => ?_⟩
              split at ec
              · rename_i b
                split at ec
                · rename_i l' hl'
                  split at ec
                  · rename_i hlen
                    cases ec
                    cases w3
                    have hn3 := (st3.gr m2).p _ _ hn2
                    obtain ⟨vs', hv', rds'⟩ := at_lst m3 hl' hn3
                    obtain ⟨m4, st4⟩ := lwrite m3 hn3 hv' (rds'.set (.int (g x b)) j)
                    have st := ((st1.trans st2).trans st3).trans st4
                    exact ⟨_, _, rfl, rfl, _, vs', k', j, rfl, rfl, hv', by rw [← rds'.length, hlen]; exact hj, q r3 _ st m4 _ (hs.gr (st.gr hm))⟩
                  · cases ec
                · cases ec
              · cases ec
          · cases eb
        · cases eb
      · cases eb
    · cases eb
  rcases hf with rfl | rfl
  · exact (ps_augS ho hi get_listG ha ip_add set_list (by intros; cases pi <;> first | rfl | cases hp)).imp (key (fun a b => a + b) fun M s => by simp only [evS] <;> rfl)
  · exact (ps_augS ho hi get_listG ha ip_sub set_list (by intros; cases pi <;> first | rfl | cases hp)).imp (key (fun a b => a - b) fun M s => by simp only [evS] <;> rfl)

/-! ### the rest -/
theorem q_expr {e : E} {pe : Expr} (hv : plainV pe = true) (he : PE X pe (tE X.K C e)) : PS X (.Expr pe pos) (tS X.K C (.expr e)) := (ps_expr he (sw_plain hv)).imp fun D σ H h => by
  obtain ⟨s, M, r, fl, M', hs, hm, e, q⟩ := h
  simp only [evS] at e
  obtain ⟨w, M1, e1, ea⟩ := bind_ok e
  cases ea
  exact ⟨s, M, r, w, M', hs, hm, e1, fun r1 H1 v1 st1 m1 _ => q r1 H1 st1 m1 _ (hs.gr (st1.gr hm))⟩
theorem q_ret {e : E} {pe : Expr} (he : PE X pe (tE X.K C e)) : PS X (.Return (some pe) pos) (tS X.K C (.ret e)) := (ps_ret he).imp fun D σ H h => by
  obtain ⟨s, M, r, fl, M', hs, hm, e, q⟩ := h
  simp only [evS] at e
  obtain ⟨w, M1, e1, ea⟩ := bind_ok e
  cases ea
  exact ⟨s, M, r, w, M', hs, hm, e1, fun r1 H1 v1 st1 m1 w1 => q r1 H1 st1 m1 _ w1⟩
theorem q_retn : PS X (.Return none pos) (tS X.K C .retn) := ps_retN.imp fun D σ H h => by
  obtain ⟨s, M, r, fl, M', hs, hm, e, q⟩ := h
  simp only [evS] at e
  cases e
  exact q r H .refl hm _ .non
theorem q_cont : PS X (.Continue pos) (tS X.K C .cont) := ps_continue.imp fun D σ H h => by
  obtain ⟨s, M, r, fl, M', hs, hm, e, q⟩ := h
  simp only [evS] at e
  cases e
  exact q r H .refl hm _ hs
theorem q_brk : PS X (.Break pos) (tS X.K C .brk) := ps_break.imp fun D σ H h => by
  obtain ⟨s, M, r, fl, M', hs, hm, e, q⟩ := h
  simp only [evS] at e
  cases e
  exact q r H .refl hm _ hs
theorem q_pass : PS X (.Pass pos) (tS X.K C .pass) := ps_pass.imp fun D σ H h => by
  obtain ⟨s, M, r, fl, M', hs, hm, e, q⟩ := h
  simp only [evS] at e
  cases e
  exact q r H .refl hm _ hs
theorem q_ife {c : E} {a b : Ss} {pc : Expr} {pa pb : List Stmt} (hc : PT X pc (tB X.K C c)) (ha : PSs X pa (tSs X.K C a)) (hb : PSs X pb (tSs X.K C b)) : PS X (.If pc pa pb pos) (tS X.K C (.ife c a b)) := (ps_if hc ha hb).imp fun D σ H h => by
  obtain ⟨s, M, r, fl, M', hs, hm, e, q⟩ := h
  simp only [evS] at e
  obtain ⟨x, M1, e1, ea⟩ := bind_ok e
  obtain ⟨d, M2, e2, eb⟩ := bind_ok ea
  obtain ⟨e3, rfl⟩ := opt_ok e2
  refine ⟨s, M, r, d, M2, hs, hm, tb_ok e1 e3, fun r1 H1 v st1 m1 rw => ?_⟩
  subst rw
  cases d with
  | true =>
    rw [if_pos rfl]
    exact ⟨s, M2, r1, fl, M', hs.gr (st1.gr hm), m1, eb, fun r2 H2 st2 m2 => (q r2 H2 (st1.trans st2) m2).back hm m1 st1⟩
  | false =>
    rw [if_neg (by decide)]
    exact ⟨s, M2, r1, fl, M', hs.gr (st1.gr hm), m1, eb, fun r2 H2 st2 m2 => (q r2 H2 (st1.trans st2) m2).back hm m1 st1⟩
theorem q_for {t : Tg} {it : I} {b : Ss} {ptg pit : Expr} {pb : List Stmt} (F : Fit T C X) (hi : PI X ptg pit (tI X.K C it)) (hg : PG X ptg (gT X.K t)) (hb : PSs X pb (tSs X.K C b)) (hp : plainE pit = true) : PS X (.For ptg pit pb [] pos) (tS X.K C (.for_ t it b)) :=
  (ps_for (by rw [F.nx]; exact PassesOwn.never) F.calm hi hg hb (plain_fold hp)).imp fun D σ H h => by
    obtain ⟨s, M, r, fl, M', hs, hm, e, q⟩ := h
    simp only [evS] at e
    obtain ⟨⟨l, ss⟩, M1, e1, ea⟩ := bind_ok e
    clear e
    refine ⟨s, M, r, l, ss, M1, hs, hm, e1, evI_src e1, fun r1 H1 J st1 m1 rows hz => ?_⟩
    simp only at ea
    generalize hbody : (fun (d : Ev.D) (s1 : Ev.Env) (M2 : Mem) => match asgT t d s1 with
      | none => Res.no
      | some s2 => evSs C b s2 M2) = body at ea
    refine ⟨fun i m σ2 H2 => m = l.length - i ∧ i ≤ l.length ∧ ∃ r2 M2 s2, Stp r1 H1 r2 H2 ∧ RM X.K r2 H2 M2 ∧ RS X.K r2 H2 s2 σ2 ∧ SrcOk ss M2 ∧ forL body ss (l.drop i) s2 M2 = .ok fl M',
      ⟨l.length, rfl, Nat.zero_le _, r1, M1, s, .refl, m1, hs.gr (st1.gr hm), evI_src e1, ea⟩, ?_⟩
    rintro i m σ2 H2 ⟨rfl, hi', r2, M2, s2, st, m2, hs2, hk, ec⟩
    obtain ⟨hstop, hgo⟩ := rows r2 H2 M2 st m2 hk
    by_cases hlt : i < l.length
    · right
      obtain ⟨go, step⟩ := hgo i l[i] (List.getElem?_eq_getElem hlt)
      refine ⟨go, fun σ' H' => ∃ r2 M2 s2, Stp r1 H1 r2 H' ∧ RM X.K r2 H' M2 ∧ RS X.K r2 H' s2 σ' ∧ SrcOk ss M2 ∧ forL body ss (l.drop (i + 1)) s2 M2 = .ok fl M', fun σ' H' hN => ⟨l.length - (i + 1), by omega, rfl, hlt, hN⟩, fun x H' hy => ?_⟩
      obtain ⟨sty, my, rdx⟩ := step x H' hy
      rw [List.drop_eq_getElem_cons hlt] at ec
      simp only [forL] at ec
      obtain ⟨f1, M3, et, ed⟩ := bind_ok ec
      clear ec
      rw [← hbody] at et
      simp only at et
      split at et
      · cases et
      rename_i s3 es3
      have gy := sty.gr m2
      refine ⟨s2, M2, r2, l[i], s3, hs2.gr gy, my, rdx, es3, fun σ3 rs3 _ => ?_⟩
      refine ⟨s3, M2, r2, f1, M3, rs3, my, et, fun r3 H3 st3 m3 => ?_⟩
      have sta := (st.trans sty).trans st3
      cases f1 with
      | nx s4 =>
        intro σ4 rs4
        simp only at ed
        split at ed
        · rename_i hk3; exact ⟨r3, M3, s4, sta, m3, rs4, hk3, ed⟩
        · cases ed
      | ct s4 =>
        intro σ4 rs4
        simp only at ed
        split at ed
        · rename_i hk3; exact ⟨r3, M3, s4, sta, m3, rs4, hk3, ed⟩
        · cases ed
      | bk s4 =>
        intro σ4 rs4
        cases ed
        exact q r3 H3 (st1.trans sta) m3 σ4 rs4
      | rt w =>
        intro v hv
        cases ed
        exact q r3 H3 (st1.trans sta) m3 v (hv.back hm my (st1.trans (st.trans sty)))
    · left
      have ei : i = l.length := by omega
      subst ei
      rw [List.drop_length] at ec
      simp only [forL] at ec
      cases ec
      exact ⟨hstop, q r2 H2 (st1.trans st) m2 σ2 hs2⟩
theorem q_whl {c : E} {b : Ss} {pc : Expr} {pb : List Stmt} (F : Fit T C X) (hc : PT X pc (tB X.K C c)) (hb : PSs X pb (tSs X.K C b)) : PS X (.While pc pb [] pos) (tS X.K C (.whl c b)) :=
  (ps_while (by rw [F.nx]; exact PassesOwn.never) hc hb).imp fun D σ H h => by
    obtain ⟨s, M, r, fl, M', hs, hm, e, q⟩ := h
    simp only [evS] at e
    refine ⟨fun n σ2 H2 => ∃ r2 M2 s2, Stp r H r2 H2 ∧ RM X.K r2 H2 M2 ∧ RS X.K r2 H2 s2 σ2 ∧ whlL (fun s1 M1 => (evE C c s1 M1).bind fun x M2 => .opt (toB x) M2) (evSs C b) n s2 M2 = .ok fl M', ⟨C.fuel, r, M, s, .refl, hm, hs, e⟩, ?_⟩
    rintro n σ2 H2 ⟨r2, M2, s2, st, m2, hs2, ec⟩
    cases n with
    | zero => simp only [whlL] at ec; cases ec
    | succ n =>
      simp only [whlL] at ec
      obtain ⟨d, M3, e1, ed⟩ := bind_ok ec
      refine ⟨s2, M2, r2, d, M3, hs2, m2, e1, fun r3 H3 v st3 m3 rw => ?_⟩
      subst rw
      cases d with
      | false =>
        simp only at ed
        cases ed
        rw [if_neg (by decide)]
        exact q r3 H3 (st.trans st3) m3 σ2 (hs2.gr (st3.gr m2))
      | true =>
        simp only at ed
        rw [if_pos rfl]
        obtain ⟨f1, M4, e2, ef⟩ := bind_ok ed
        refine ⟨fun σ' H' => ∃ r2 M2 s2, Stp r H r2 H' ∧ RM X.K r2 H' M2 ∧ RS X.K r2 H' s2 σ' ∧ whlL (fun s1 M1 => (evE C c s1 M1).bind fun x M2 => .opt (toB x) M2) (evSs C b) n s2 M2 = .ok fl M', fun σ' H' hN => ⟨n, Nat.lt_succ_self _, hN⟩, ?_⟩
        refine ⟨s2, M3, r3, f1, M4, hs2.gr (st3.gr m2), m3, e2, fun r4 H4 st4 m4 => ?_⟩
        have sta := (st.trans st3).trans st4
        cases f1 with
        | nx s4 => exact fun σ4 rs4 => ⟨r4, M4, s4, sta, m4, rs4, ef⟩
        | ct s4 => exact fun σ4 rs4 => ⟨r4, M4, s4, sta, m4, rs4, ef⟩
        | bk s4 => cases ef; exact fun σ4 rs4 => q r4 H4 sta m4 σ4 rs4
        | rt w => cases ef; exact fun v hv => q r4 H4 sta m4 v (hv.back hm m3 (st.trans st3))
end
end Ev

/-! EvB16: the check of statements suffices. -/
namespace Ev
open PySem PySem.Spec PyProof.Rows L2
def notTup : Expr → Bool
  | .Tuple _ _ _ => false
  | _ => true
def isLc : Expr → Bool
  | .ListComp _ _ _ _ => true
  | _ => false
def swapB (T : Nm) (x : Str) (p : Pos) : Expr → Bool
  | .ListComp _ _ scope p2 => lcSwap T x p p2 scope
  | _ => false
def okA (T : Nm) (i : Nat) (e : E) (x : Str) (p : Pos) (pe : Expr) : Bool := T.slot i x && okE e T pe && (isLc pe || plainV pe) && (swapB T x p pe || T.sto x)
def okP (T : Nm) (is : List Nat) (es : Es) (st : Stmt) : Bool := match is, st with
  | [i, j], .Assign [.Tuple [.Name x px, .Name y py] _ _] (.Tuple [a, b] _ _) _ => T.slot i x && T.slot j y && decide (i ≠ j) && par2 T x y px py a b && okEs es T [a, b]
  | [i, j, k], .Assign [.Tuple [.Name x px, .Name y py, .Name z pz] _ _] (.Tuple [a, b, c] _ _) _ => T.slot i x && T.slot j y && T.slot k z && decide (i ≠ j) && decide (i ≠ k) && decide (j ≠ k) && par3 T x y z px py pz a b c && okEs es T [a, b, c]
  | _, _ => false
mutual
def okS : S → Nm → Stmt → Bool
  | .asg t e, T, st => match t, st with
    | .nm i, .Assign [.Name x p] pe _ => okA T i e x p pe
    | .tp ts, .Assign [.Tuple pts _ _] pe _ => notTup pe && okTs T ts pts && okE e T pe
    | _, _ => false
  | .par is es, T, st => okP T is es st
  | .setix o i a, T, st => match st with
    | .Assign [.Subscript po pi _] pa _ => plainE pi && okE o T po && okE i T pi && okE a T pa
    | _ => false
  | .dset o i a, T, st => match st with
    | .Assign [.Subscript po pi _] pa _ => plainE pi && okE o T po && okE i T pi && okE a T pa
    | _ => false
  | .augix f o i a, T, st => match st with
    | .AugAssign (.Subscript po pi _) op pa _ => (decide (f = .add) || decide (f = .sub)) && eqB f op && plainE pi && okE o T po && okE i T pi && okE a T pa
    | _ => false
  | .expr e, T, st => match st with
    | .Expr pe _ => plainV pe && okE e T pe
    | _ => false
  | .ret e, T, st => match st with
    | .Return (some pe) _ => okE e T pe
    | _ => false
  | .retn, _, st => match st with
    | .Return none _ => true
    | _ => false
  | .ife c a b, T, st => match st with
    | .If pc pa pb _ => okE c T pc && okSs a T pa && okSs b T pb
    | _ => false
  | .for_ t it b, T, st => match st with
    | .For ptg pit pb [] _ => plainE pit && okT T t ptg && okI it T ptg pit && okSs b T pb
    | _ => false
  | .whl c b, T, st => match st with
    | .While pc pb [] _ => okE c T pc && okSs b T pb
    | _ => false
  | .cont, _, st => match st with
    | .Continue _ => true
    | _ => false
  | .brk, _, st => match st with
    | .Break _ => true
    | _ => false
  | .pass, _, st => match st with
    | .Pass _ => true
    | _ => false
def okSs : Ss → Nm → List Stmt → Bool
  | .nil, _, [] => true
  | .cons a r, T, p :: ps => okS a T p && okSs r T ps
  | _, _, _ => false
end
section
variable {T : Nm} {C : Cl} {X : Cx} {pos : Pos}
theorem lc_plainT {e : E} {pel : Expr} {gs : List Comprehension} {scope : Scope} {p2 : Pos} (h : okE e T (.ListComp pel gs scope p2) = true) : ∃ el tg it c ws ptg pit pifs, e = .comp el tg it c ws ∧ gs = [⟨ptg, pit, pifs, 0⟩] ∧ blkC T.N T.sc scope (ownOf T ws) = true ∧ (tg.slots.all fun i => ws.contains i) = true ∧ plainE pit = true ∧ okT (T.inn scope) tg ptg = true ∧ okI it T ptg pit = true ∧ okC c (T.inn scope) pifs = true ∧ okE el (T.inn scope) pel = true := by
  cases e with
  | comp el tg it c ws =>
    simp only [okE] at h
    split at h
    · rename_i e
      cases e
      simp only [Bool.and_eq_true] at h
      exact ⟨el, tg, it, c, ws, _, _, _, rfl, rfl, h.1.1.1.1.1.1, h.1.1.1.1.1.2, h.1.1.1.1.2, h.1.1.1.2, h.1.1.2, h.1.2, h.2⟩
    · cases h
  | bi f i => cases i <;> simp [okE] at h
  | _ => simp [okE] at h
theorem q_asgN {i : Nat} {e : E} {x : Str} {p : Pos} {pe : Expr} (F : Fit T C X) (h : okA T i e x p pe = true) : PS X (.Assign [.Name x p] pe pos) (tS X.K C (.asg (.nm i) e)) := by
  unfold okA at h
  simp only [Bool.and_eq_true] at h
  obtain ⟨⟨⟨h1, h2⟩, h3⟩, h4⟩ := h
  cases hl : isLc pe with
  | false =>
    rw [hl] at h3
    have hs : swapB T x p pe = false := by cases pe <;> first | rfl | cases hl
    rw [hs] at h4
    exact q_set F h1 (by simpa using h4) (by simpa using h3) (ok_E e F h2).v
  | true =>
    cases pe with
    | ListComp pel gs scope p2 =>
      cases hs : lcSwap T x p p2 scope with
      | true =>
        obtain ⟨el, tg, it, c, ws, ptg, pit, pifs, rfl, rfl, b1, b2, b3, b4, b5, b6, b7⟩ := lc_plainT h2
        exact q_setLc F h1 hs b1 b2 b3 b4 b5 b6 b7
      | false =>
        have h4 : (lcSwap T x p p2 scope || T.sto x) = true := h4
        rw [hs] at h4
        exact q_setLcN F h1 (by simpa using h4) hs (ok_E e F h2).v
    | _ => cases hl
theorem q_parN {is : List Nat} {es : Es} {st : Stmt} (F : Fit T C X) (h : okP T is es st = true) : PS X st (tS X.K C (.par is es)) := by
  unfold okP at h
  split at h
  · simp only [Bool.and_eq_true] at h
    exact q_par2 F h.1.1.1.1 h.1.1.1.2 (of_decide_eq_true h.1.1.2) h.1.2 (ok_Es es F h.2).1
  · simp only [Bool.and_eq_true] at h
    exact q_par3 F h.1.1.1.1.1.1.1 h.1.1.1.1.1.1.2 h.1.1.1.1.1.2 (of_decide_eq_true h.1.1.1.1.2) (of_decide_eq_true h.1.1.1.2) (of_decide_eq_true h.1.1.2) h.1.2 (ok_Es es F h.2).1
  · cases h
mutual
theorem ok_S : ∀ (a : S) {st : Stmt}, Fit T C X → okS a T st = true → PS X st (tS X.K C a)
  | .asg t e, st, F, h => by
    simp only [okS] at h
    split at h
    · exact q_asgN F h
    · simp only [Bool.and_eq_true] at h
      rename_i pe _
      exact q_tup F h.1.2 (by intro env; cases pe <;> first | rfl | cases h.1.1) (ok_E e F h.2).v
    · cases h
  | .par is es, st, F, h => by
    simp only [okS] at h
    exact q_parN F h
  | .setix o i a, st, F, h => by
    simp only [okS] at h
    split at h
    · simp only [Bool.and_eq_true] at h
      exact q_setix h.1.1.1 (ok_E o F h.1.1.2).v (ok_E i F h.1.2).v (ok_E a F h.2).v
    · cases h
  | .dset o i a, st, F, h => by
    simp only [okS] at h
    split at h
    · simp only [Bool.and_eq_true] at h
      exact q_dset F h.1.1.1 (ok_E o F h.1.1.2).v (ok_E i F h.1.2).v (ok_E a F h.2).v
    · cases h
  | .augix f o i a, st, F, h => by
    simp only [okS] at h
    split at h
    · simp only [Bool.and_eq_true, Bool.or_eq_true, decide_eq_true_eq] at h
      exact q_augix h.1.1.1.1.1 h.1.1.1.1.2 h.1.1.1.2 (ok_E o F h.1.1.2).v (ok_E i F h.1.2).v (ok_E a F h.2).v
    · cases h
  | .expr e, st, F, h => by
    simp only [okS] at h
    split at h
    · simp only [Bool.and_eq_true] at h
      exact q_expr h.1 (ok_E e F h.2).v
    · cases h
  | .ret e, st, F, h => by
    simp only [okS] at h
    split at h
    · exact q_ret (ok_E e F h).v
    · cases h
  | .retn, st, F, h => by
    simp only [okS] at h
    split at h
    · exact q_retn
    · cases h
  | .ife c a b, st, F, h => by
    simp only [okS] at h
    split at h
    · simp only [Bool.and_eq_true] at h
      exact q_ife (ok_E c F h.1.1).t (ok_Ss a F h.1.2) (ok_Ss b F h.2)
    · cases h
  | .for_ t it b, st, F, h => by
    simp only [okS] at h
    split at h
    · simp only [Bool.and_eq_true] at h
      exact q_for F (ok_I it F h.1.2) (g_tg F h.1.1.2) (ok_Ss b F h.2) h.1.1.1
    · cases h
  | .whl c b, st, F, h => by
    simp only [okS] at h
    split at h
    · simp only [Bool.and_eq_true] at h
      exact q_whl F (ok_E c F h.1).t (ok_Ss b F h.2)
    · cases h
  | .cont, st, F, h => by
    simp only [okS] at h
    split at h
    · exact q_cont
    · cases h
  | .brk, st, F, h => by
    simp only [okS] at h
    split at h
    · exact q_brk
    · cases h
  | .pass, st, F, h => by
    simp only [okS] at h
    split at h
    · exact q_pass
    · cases h
theorem ok_Ss : ∀ (a : Ss) {st : List Stmt}, Fit T C X → okSs a T st = true → PSs X st (tSs X.K C a)
  | .nil, st, F, h => by
    cases st with
    | nil => exact q_nil
    | cons _ _ => simp [okSs] at h
  | .cons a r, st, F, h => by
    cases st with
    | nil => simp [okSs] at h
    | cons p ps =>
      simp only [okSs, Bool.and_eq_true] at h
      exact q_cons (ok_S a F h.1) (ok_Ss r F h.2)
end
end
end Ev

/-! EvB17: the defs of a text keep the evaluator's promise. -/
namespace Ev
open PySem PySem.Spec PyProof.Rows L2
/-! ### what a call leaves -/
section
variable {K : PySem.W.Frag} {r r1 : List Addr} {H H1 : Hp} {M M1 : Mem}
mutual
theorem RD.bel : ∀ {d : D} {v : V}, RD K r H d v → D.bel r.length d = true
  | _, _, .non => rfl
  | _, _, .bl _ => rfl
  | _, _, .int _ => rfl
  | _, _, .str _ => rfl
  | _, _, .tup _ t => by rw [D.bel]; exact RDs.bel t
  | _, _, .ref h => by rw [D.bel]; exact decide_eq_true (List.getElem?_eq_some_iff.mp h).1
  | _, _, .scr _ => rfl
theorem RDs.bel : ∀ {l : List D} {vs : List V}, RDs K r H l vs → D.bels r.length l = true
  | _, _, .nil => rfl
  | _, _, .cons a t => by rw [D.bels, RD.bel a, RDs.bel t]; rfl
end
theorem pre_get (h : r <+: r1) {n : Nat} (hn : n < r.length) : r1[n]? = r[n]? := by
  obtain ⟨t, e⟩ := h
  rw [← e, List.getElem?_append_left hn]
mutual
theorem RD.low (h : r <+: r1) : ∀ {d : D} {v : V}, RD K r1 H d v → D.bel r.length d = true → RD K r H d v
  | _, _, .non, _ => .non
  | _, _, .bl b, _ => .bl b
  | _, _, .int b, _ => .int b
  | _, _, .str b, _ => .str b
  | _, _, .tup a t, b => by rw [D.bel] at b; exact .tup a (RDs.low h t b)
  | _, _, .ref e, b => by rw [D.bel] at b; exact .ref (by rw [← pre_get h (of_decide_eq_true b)]; exact e)
  | _, _, .scr s, _ => .scr s
theorem RDs.low (h : r <+: r1) : ∀ {l : List D} {vs : List V}, RDs K r1 H l vs → D.bels r.length l = true → RDs K r H l vs
  | _, _, .nil, _ => .nil
  | _, _, .cons a t, b => by rw [D.bels, Bool.and_eq_true] at b; exact .cons (RD.low h a b.1) (RDs.low h t b.2)
end
theorem RO.bel {a : Addr} {o : O} (h : RO K r H a o) : o.bel r.length = true := by
  cases o with
  | lst l => obtain ⟨vs, _, t⟩ := h; exact t.bel
  | dct l => obtain ⟨vs, _, t⟩ := h; exact t.bel
  | ins c l => exact h.elim
theorem RO.low (hp : r <+: r1) {a : Addr} {o : O} (h : RO K r1 H a o) (b : o.bel r.length = true) : RO K r H a o := by
  cases o with
  | lst l => obtain ⟨vs, e, t⟩ := h; exact ⟨vs, e, t.low hp b⟩
  | dct l => obtain ⟨vs, e, t⟩ := h; exact ⟨vs, e, t.low hp b⟩
  | ins c l => exact h.elim
theorem dropped (m : RM K r H M) (st : Stp r H r1 H1) (m1 : RM K r1 H1 M1) (p : Pre M.length M M1) : RM K r H1 (M1.take M.length) ∧ Stp r H r H1 := by
  have hl : M.length ≤ M1.length := by rw [← m.len, ← m1.len]; exact st.pre.length_le
  refine ⟨⟨by rw [List.length_take, m.len]; omega, m.nd, fun n o h => ?_⟩, List.prefix_rfl, fun _ h => .inl h, st.frame⟩
  have hn : n < M.length := by
    have := (List.getElem?_eq_some_iff.mp h).1
    rw [List.length_take] at this
    omega
  rw [List.getElem?_take_of_lt hn] at h
  obtain ⟨a, e1, e2⟩ := m1.obj n o h
  have hb : o.bel r.length = true := by
    rcases p n o hn h with z | z
    · obtain ⟨a', _, q⟩ := m.obj n o z
      exact q.bel
    · rw [m.len]; exact z
  rw [pre_get st.pre (by rw [m.len]; exact hn)] at e1
  exact ⟨a, e1, e2.low st.pre hb⟩
theorem leave_ok {w w1 : W} {v : V} {M' : Mem} (m : RM K r H M) (st : Stp r H r1 H1) (m1 : RM K r1 H1 M1) (hw : RW K H r1 H1 w1 v) (e : leave M w1 M1 = .ok w M') : ∃ r', Stp r H r' H1 ∧ RM K r' H1 M' ∧ RW K H r' H1 w v := by
  unfold leave at e
  split at e
  · rename_i p
    obtain ⟨m2, st2⟩ := dropped m st m1 p
    split at e
    · rename_i b
      injection e with ew eM
      subst ew eM
      refine ⟨r, st2, m2, ?_⟩
      rw [← m.len] at b
      cases w1 with
      | v d => exact RD.low st.pre hw b
      | fl l =>
        obtain ⟨a, vs, e0, e1, e2, e3, e4⟩ := hw
        exact ⟨a, vs, e0, e1, e2, fun z => e3 (st.pre.subset z), e4.low st.pre b⟩
    · rename_i nb
      split at e
      · rename_i n
        split at e
        · rename_i l hl
          split at e
          · rename_i b
            cases e
            refine ⟨r, st2, m2, ?_⟩
            rw [← m.len] at b
            cases hw with
            | ref hn =>
              rename_i a
              obtain ⟨a', e1, e2⟩ := m1.obj n _ hl
              rw [hn] at e1
              cases e1
              obtain ⟨vs, e3, e4⟩ := e2
              have hnr : a ∉ r := by
                intro z
                obtain ⟨k, hk, ek⟩ := List.getElem_of_mem z
                have e5 : r1[k]? = some a := by rw [pre_get st.pre hk, List.getElem?_eq_getElem hk, ek]
                obtain ⟨x1, y1⟩ := List.getElem?_eq_some_iff.mp e5
                obtain ⟨x2, y2⟩ := List.getElem?_eq_some_iff.mp hn
                have e6 : k = n := (List.getElem_inj m1.nd).mp (y1.trans y2.symm)
                apply nb
                rw [W.bel, D.bel, ← m.len, ← e6]
                exact decide_eq_true hk
              have h0 : H a = none := by
                rcases st.new a (List.mem_of_getElem? hn) with z | z
                · exact absurd z hnr
                · exact z
              exact ⟨a, vs, rfl, h0, e3, hnr, e4.low st.pre b⟩
          · cases e; exact ⟨r1, st, m1, hw⟩
        · cases e; exact ⟨r1, st, m1, hw⟩
      · cases e; exact ⟨r1, st, m1, hw⟩
  · cases e; exact ⟨r1, st, m1, hw⟩
end

/-! ### a def by its body -/
/-- slots at the entry -/
theorem start_rep {K : PySem.W.Frag} {r : List Addr} {H : Hp} {N : List Str} {l : List D} {vs : List V} {ns np : Nat} (h : RDs K r H l vs) (h1 : ns = N.length) (h2 : l.length = np) : RS K r H (l.map some ++ List.replicate (ns - np) none) (L2.start N vs) := by
  have hl := h.length
  unfold L2.start
  refine ⟨by simp; omega, fun i d hd => ?_⟩
  by_cases hi : i < l.length
  · rw [List.getElem?_append_left (by simpa using hi), List.getElem?_map] at hd
    cases e : l[i]? with
    | none => rw [e] at hd; cases hd
    | some x =>
      rw [e] at hd
      cases hd
      obtain ⟨v, e1, e2⟩ := h.get e
      refine ⟨v, ?_, e2⟩
      rw [List.getElem?_append_left (by rw [List.length_map, ← hl]; exact hi), List.getElem?_map, e1]
      rfl
  · rw [List.getElem?_append_right (by simpa using hi), List.getElem?_replicate] at hd
    split at hd <;> cases hd
/-- the rule of a def, where nothing is raised and no repr is under way -/
theorem fnG_of {P : Program} {w : World} {K : PySem.W.Frag} {mg : Str → Option Value} {base : Heap} {k : Nat} {f : Addr} {x qual : Str} {st : Stmt} {fd : FuncData} {N ps : List Str} {sp : List V → Hp → VK → Prop}
    (W : Fun K x qual st f fd) (S : FnScope N ps (defScope st)) (hlen : ∀ vs H Q, sp vs H Q → vs.length = ps.length)
    (hb : ∀ (cdv : Value) (A : Around) (ou : List PySem.Env) (s : Shared) (H : Hp) (vs : List V) (Q : VK), Room k (A.deeper (envOfC qual (defScope st) s.heap.objs.size f cdv)) → A.guards = some [] → sp vs H Q →
      ∃ t, PSs (cxOf CX0 P w K mg base N qual (defScope st) f cdv A ou s H E0).nox (defBody st) t ∧ t { nx := fun _ H' => Q .non H', rt := Q } (L2.start N vs) H) :
    FnG P w K mg base (k + 1) f fd ps sp := by
  obtain ⟨oc, od, kV, doc, pm, an, cdv, ct, osl, rfl, lk, hcd⟩ := W.ex
  refine ⟨hlen, fun A ou s0 H0 ar us vs Q room grd env bnd rv pr => ?_⟩
  have n0 := hlen vs H0 Q pr
  have kin := env.mod.kin.keeps (h' := s0.heap) fun b o z => (env.bs b o z).1
  have nol := env.mod.nolimit.keeps (h' := s0.heap) fun b o z => (env.bs b o z).1
  have kinds : ∀ y ∈ ps.zip us, (defScope st).names.lookup y.1 = some .local ∨ ((defScope st).names.lookup y.1 = some .cell ∧ ((cellsFrom (s0.heap.objs.size + 1) (defScope st).names []).lookup y.1).isSome = true) := by
    rintro ⟨n, v⟩ hy
    rcases S.par n (List.of_mem_zip hy).1 with z | z
    · exact Or.inl z
    · exact Or.inr ⟨z, PySem.W.cellsFrom_some _ _ _ (Or.inl z)⟩
  refine codeAny_call_function room.depth (kin _ _ lk) rfl S.co S.gen rfl (PySem.W.codeRec_of kin hcd) (bnd _ _ _ _ ?_)
  refine wpAny_newFunctionEnv_cells S.kind kinds fun env2 he s1 ic => ?_
  subst he
  refine ⟨nol.keeps ic.toInCall.keep, codeAny_func ?_⟩
  obtain ⟨t, ht, ht2⟩ := hb cdv A ou s0 H0 vs Q (room.deeper _) grd pr
  have I0 := inv_start (CX := CX0) (E := E0) S room.hd env n0 rv ic
  refine wpAny_mono (ht.nox.run [] s1 (L2.start N vs) H0 _ I0 ht2) (fun fl s2 z => ?_) fun e s2 z => z
  cases fl with
  | brk => obtain ⟨_, _, _, z⟩ := z; exact z.elim
  | cont => obtain ⟨_, _, _, z⟩ := z; exact z.elim
  | next => obtain ⟨_, H2, J, z⟩ := z; exact ⟨V.non, H2, J.os, J.bare, J.base, J.hok, rfl, z⟩
  | ret u => obtain ⟨v, _, H2, J, z1, z2⟩ := z; exact ⟨v, H2, J.os, J.bare, J.base, J.hok, z1, z2⟩
/-- what the evaluator promises of a def whose body was checked -/
theorem fnG_ev {P : Program} {w : World} {K : PySem.W.Frag} {mg : Str → Option Value} {base : Heap} {f : Addr} {x qual : Str} {st : Stmt} {fd : FuncData} {N ps : List Str} {defs : List FD} {glb : Nat → D} {fuel n i : Nat} {d : FD} {T : Nm}
    (W : Fun K x qual st f fd) (S : FnScope N ps (defScope st)) (hd : defs[i]? = some d) (hns : d.ns = N.length) (hnp : d.np = ps.length) (hok : okSs d.body T (defBody st) = true)
    (hfit : ∀ X : Cx, X.prog = P → X.w = w → X.K = K → X.mg = mg → X.base = base → X.calm = true → X.N = N → X.env.scope = defScope st → X.fn = (fun _ => true) → X.xe = (fun _ _ => False) → Room n X.A → X.A.guards = some [] → Fit T ⟨callF defs glb fuel n, glb, fuel⟩ X) :
    FnG P w K mg base (n + 1) f fd ps (spC K ⟨callF defs glb fuel (n + 1), glb, fuel⟩ i) := by
  refine fnG_of W S (fun vs H Q h => ?_) fun cdv A ou s H vs Q room grd h => ?_
  · obtain ⟨r, M, l, w, M', m, rds, e, q⟩ := h
    simp only [callF, hd, runB] at e
    split at e
    · rename_i hl
      rw [← rds.length, hl, hnp]
    · cases e
  · obtain ⟨r, M, l, w', M', m, rds, e, q⟩ := h
    simp only [callF, hd, runB] at e
    split at e
    rotate_left
    · cases e
    rename_i hl
    have F := hfit (cxOf CX0 P w K mg base N qual (defScope st) f cdv A ou s H E0).nox rfl rfl rfl rfl rfl rfl rfl rfl rfl rfl room grd
    refine ⟨_, ok_Ss d.body F hok, ?_⟩
    have rs := start_rep (N := N) (ns := d.ns) (np := d.np) rds hns hl
    split at e
    · rename_i w1 M1 ee
      refine ⟨_, M, r, .rt w1, M1, rs, m, ee, fun r1 H1 st1 m1 v hv => ?_⟩
      obtain ⟨r2, st2, m2, hv2⟩ := leave_ok m st1 m1 hv e
      exact q r2 H1 v st2 m2 hv2
    · rename_i s1 M1 ee
      refine ⟨_, M, r, .nx s1, M1, rs, m, ee, fun r1 H1 st1 m1 σ' _ => ?_⟩
      obtain ⟨r2, st2, m2, hv2⟩ := leave_ok (w1 := .v .non) (v := .non) m st1 m1 RD.non e
      exact q r2 H1 .non st2 m2 hv2
    · cases e
    · cases e
    · cases e
end Ev

/-! EvB18: a whole text; the law's own call. -/
namespace Ev
open PySem PySem.Spec PyProof.Rows L2

/-! ### a text -/
/-- a def of the text: its name, its statement, its slots, its parameters, the small body -/
structure DR where
  x : Str
  st : Stmt
  N : List Str
  ps : List Str
  d : FD
def DR.nm (ds : List DR) (cn bn : List Str) (r : DR) : Nm := ⟨r.N, defScope r.st, fun _ => true, ds.map (·.x), cn, bn⟩
def scopeB (N ps : List Str) (sc : Scope) : Bool :=
  (decide (sc.kind = .function) && (!sc.isCoroutine && !sc.isGenerator)) && (decide N.Nodup && decide (N.take ps.length = ps)) &&
    (ps.all (fun y => sc.names.lookup y == some .local || sc.names.lookup y == some .cell) && sc.names.all fun y => !(y.2 == .free))
theorem scopeB_of {N ps : List Str} {sc : Scope} (h : scopeB N ps sc = true) : FnScope N ps sc := by
  unfold scopeB at h
  simp only [Bool.and_eq_true, Bool.not_eq_true', decide_eq_true_eq, List.all_eq_true, Bool.or_eq_true, beq_iff_eq] at h
  obtain ⟨⟨⟨h1, h2, h3⟩, h4, h5⟩, h6, h7⟩ := h
  refine ⟨h1, h2, h3, h4, h5, h6, fun y hy z => ?_⟩
  have q := h7 y hy
  rw [z] at q
  cases q
def DR.chk (ds : List DR) (cn bn : List Str) (r : DR) : Bool := scopeB r.N r.ps (defScope r.st) && decide (r.d.ns = r.N.length) && decide (r.d.np = r.ps.length) && okSs r.d.body (r.nm ds cn bn) (defBody r.st)
section
variable {P : Program} {w : World} {K : PySem.W.Frag} {mg : Str → Option Value} {base : Heap} {ds : List DR} {cn bn : List Str} {glb : Nat → D} {fuel : Nat}
/-- what stands behind the top -/
structure Top (K : PySem.W.Frag) (mg : Str → Option Value) (ds : List DR) (cn bn : List Str) (glb : Nat → D) : Prop where
  fn : ∀ (i : Nat) (r : DR), ds[i]? = some r → ∃ fa fd, Fun K r.x r.x r.st fa fd ∧ mg r.x = some (.ref fa) ∧ Binds K fd r.ps []
  bt : ∀ x ∈ bn, mg x = none
  gl : ∀ (i : Nat) x, cn[i]? = some x → ∃ u v, mg x = some u ∧ RelV v u ∧ ∀ r H, RD K r H (glb i) v
noncomputable abbrev clN (ds : List DR) (glb : Nat → D) (fuel n : Nat) : Cl := ⟨callF (ds.map (·.d)) glb fuel n, glb, fuel⟩
theorem text_ok (tp : Top K mg ds cn bn glb) (hc : ds.all (DR.chk ds cn bn) = true) : ∀ (n i : Nat) (r : DR) (fa : Addr) (fd : FuncData), ds[i]? = some r → Fun K r.x r.x r.st fa fd → FnG P w K mg base n fa fd r.ps (spC K (clN ds glb fuel n) i)
  | 0, i, r, fa, fd, hr, W => by
    refine ⟨fun vs H Q h => ?_, fun A ou s H ar us vs Q _ _ _ _ _ h => ?_⟩
    · obtain ⟨_, _, _, _, _, _, _, e, _⟩ := h
      simp only [callF] at e
      cases e
    · obtain ⟨_, _, _, _, _, _, _, e, _⟩ := h
      simp only [callF] at e
      cases e
  | n + 1, i, r, fa, fd, hr, W => by
    have hk := List.all_eq_true.mp hc r (List.mem_of_getElem? hr)
    unfold DR.chk at hk
    simp only [Bool.and_eq_true, decide_eq_true_eq] at hk
    obtain ⟨⟨⟨h1, h2⟩, h3⟩, h4⟩ := hk
    have S := scopeB_of h1
    refine fnG_ev W S (d := r.d) (by rw [List.getElem?_map, hr]; rfl) h2 h3 h4 fun X e1 e2 e3 e4 e5 e6 e7 e8 e9 e10 room grd => ?_
    refine ⟨e6, grd, by have := room.un; omega, e7, S.nd, e8, fun x _ => by rw [e9], e10, fun x hx => by rw [e4]; exact tp.bt x hx, fun j x hx => ?_, fun f x hx => ?_⟩
    · rw [e3, e4]; exact tp.gl j x hx
    · have hx : (ds.map (·.x))[f]? = some x := hx
      rw [List.getElem?_map] at hx
      cases hq : ds[f]? with
      | none => rw [hq] at hx; cases hx
      | some q =>
        rw [hq] at hx
        cases hx
        obtain ⟨fa2, fd2, W2, g1, g2⟩ := tp.fn f q hq
        rw [e1, e2, e3, e4, e5]
        exact ⟨n, fa2, fd2, q.ps, text_ok tp hc n f q fa2 fd2 hq W2, room, g1, W2.kp, g2⟩
end

/-! ### the law's own call -/
section
variable {P : Program} {w : World} {K : PySem.W.Frag} {mg mb : Str → Option Value} {k : Nat} {fa a : Addr} {fd : FuncData} {x : Str} {sp : List V → Hp → VK → Prop} {s1 : Shared} {vs : List Value} {ns : List Int}
/-- the heap at the law's call holds the script at a and the module's own -/
theorem law_G (inK : K.In s1.heap) (nsM : s1.heap.Ns mainGlobals mg) (nsB : s1.heap.Ns builtinsNs mb) (boot : ∀ y : Str, y ≠ "__name__" → mb y = bootBuiltins y) (nol : s1.heap.NoLimit) (gn : s1.gens = #[])
    (at_a : s1.heap.get? a = some { cls := .type "list", data := .seq vs.toArray }) (ia : IntsAre vs ns) (sz : ns.length ≤ sizeLine) (room : Room k callerA)
    (G : ∀ b : Heap, K.In b → b.Ns mainGlobals mg → FnG P w K mg b k fa fd [x] sp) (bnd : ∀ (s : Shared) (u : Value), BindsTo s fd ⟨[u], []⟩ [(x, u)])
    (say : ∀ H : Hp, Only H → SqL K H a (ns.map V.int) → sp [.ref a] H fun v _ => v = .bl true) :
    codeAny (model P w) callerA (.call (.ref fa) ⟨[.ref a], []⟩) (fun q s2 => q = .ok (.ret (.bool true)) ∧ OldK s1.heap s2.heap ∧ s2.os = s1.os ∧ AllBare s2.gens) s1 := by
  have lv := ia.length
  have one : ∀ H : Hp, Only H → SqL K H a (ns.map V.int) → HOk P w H s1.heap → (∀ b, b ≠ a → H b = none) → (H a = none ∨ K.lookup a = none) →
      codeAny (model P w) callerA (.call (.ref fa) ⟨[.ref a], []⟩) (fun q s2 => q = .ok (.ret (.bool true)) ∧ OldK s1.heap s2.heap ∧ s2.os = s1.os ∧ AllBare s2.gens) s1 := by
    intro H only sq ok off ka
    have hid : ∀ {b : Addr} {m : Str → Option Value}, s1.heap.Ns b m → (hidT s1.heap H).Ns b m := by
      rintro b m ⟨o, es, ep, g1, g2, g3⟩
      refine ⟨o, es, ep, hidT_get g1 (off b fun z => ?_), g2, g3⟩
      rw [z, at_a] at g1
      cases g1
      exact nomatch (show Data.seq vs.toArray _ = Data.dict es ep from g2)
    have kin : K.In (hidT s1.heap H) := by
      intro b o g1
      refine hidT_get (inK b o g1) ?_
      by_cases z : b = a
      · rcases ka with y | y
        · rw [z]; exact y
        · rw [z, y] at g1; cases g1
      · exact off b z
    have md : Mod K mg (hidT s1.heap H) := ⟨kin, hid nsM, ⟨mb, hid nsB, boot⟩, by obtain ⟨mc, g1, g2⟩ := nol; exact ⟨mc, hid g1, g2⟩⟩
    have env : Env0 P w K mg (hidT s1.heap H) callerA [] s1 H := ⟨rfl, md, fun b o g1 => of_hidT g1, Nat.le_of_eq (hidT_size _ _), trivial, (fun b hb => by cases hb), ok, .of_eq gn⟩
    refine codeAny_mono ((G _ kin (hid nsM)).run callerA [] s1 H ⟨[.ref a], []⟩ [.ref a] [.ref a] _ room rfl env (bnd s1 (.ref a)) (.cons rfl .nil) (say H only sq)) fun q s2 h => ?_
    cases q with
    | error e => exact h.elim
    | ok fl =>
      cases fl with
      | ret u =>
        obtain ⟨v, H2, os, bare, un, ok2, rv, rfl⟩ := h
        cases rv
        refine ⟨rfl, OldK.of_keep fun b o g1 => ?_, os, bare⟩
        rcases only b with z | ⟨ob, xs, z⟩
        · exact un.keep b o g1 z (by intro y; cases y) (by intro y; cases y)
        · have z2 := (ok2 b _ (un.frzs b ob _ z)).1
          have z1 := (ok b _ z).1
          rw [g1] at z1
          cases z1
          exact z2
      | next => exact h.elim
      | brk => exact h.elim
      | cont => exact h.elim
  cases hk : K.lookup a with
  | none =>
    let H : Hp := fun b => if b = a then some (.frz { cls := .type "list", data := .seq vs.toArray } (.lst (ns.map V.int))) else none
    have ha : H a = some (.frz { cls := .type "list", data := .seq vs.toArray } (.lst (ns.map V.int))) := if_pos rfl
    have hn : ∀ b, b ≠ a → H b = none := fun b z => if_neg z
    refine one H (fun b => ?_) (Or.inl (Or.inr ⟨_, ha⟩)) (fun b u g1 => ?_) hn (Or.inr hk)
    · by_cases z : b = a
      · rw [z]; exact Or.inr ⟨_, _, ha⟩
      · exact Or.inl (hn b z)
    · by_cases z : b = a
      · rw [z] at g1 ⊢
        rw [ha] at g1
        cases g1
        exact ⟨at_a, by rw [List.length_map]; exact sz, vs, 0, vals_ints ia, at_a⟩
      · rw [hn b z] at g1; cases g1
  | some o =>
    have g1 := inK a o hk
    rw [at_a] at g1
    cases g1
    exact one (fun _ => none) (fun _ => Or.inl rfl) (Or.inr ⟨_, vs.toArray, 0, hk, rfl, rfl, rfl, by rw [List.size_toArray, lv]; exact sz, by simpa using vals_ints ia⟩) (fun b u z => nomatch (show (none : Option HO) = some u from z)) (fun _ _ => rfl) (Or.inl rfl)
end
/-! ### lists of facts -/
def Each {α : Type} (p : α → Prop) : List α → Prop
  | [] => True
  | a :: r => p a ∧ Each p r
theorem each_of {α : Type} {p : α → Prop} : ∀ {l : List α}, Each p l → ∀ (i : Nat) (a : α), l[i]? = some a → p a
  | [], _, i, a, h => by simp at h
  | b :: r, q, 0, a, h => by rw [List.getElem?_cons_zero] at h; cases h; exact q.1
  | b :: r, q, i + 1, a, h => each_of q.2 i a (by simpa using h)
theorem ball_of {α : Type} {p : α → Prop} {l : List α} (h : Each p l) : ∀ a ∈ l, p a := fun a ha => by
  obtain ⟨i, hi, e⟩ := List.getElem_of_mem ha
  exact each_of h i a (by rw [List.getElem?_eq_getElem hi, e])
def EachG (K : PySem.W.Frag) (mg : Str → Option Value) (glb : Nat → D) : Nat → List Str → Prop
  | _, [] => True
  | i, x :: r => (∃ u v, mg x = some u ∧ RelV v u ∧ ∀ r H, RD K r H (glb i) v) ∧ EachG K mg glb (i + 1) r
theorem glb_at {K : PySem.W.Frag} {mg : Str → Option Value} {glb : Nat → D} : ∀ {l : List Str} {k : Nat}, EachG K mg glb k l → ∀ (i : Nat) (x : Str), l[i]? = some x → ∃ u v, mg x = some u ∧ RelV v u ∧ ∀ r H, RD K r H (glb (k + i)) v
  | [], _, _, i, x, h => by simp at h
  | b :: r, k, q, 0, x, h => by rw [List.getElem?_cons_zero] at h; cases h; exact q.1
  | b :: r, k, q, i + 1, x, h => by
    have z := glb_at q.2 i x (by simpa using h)
    rw [show k + 1 + i = k + (i + 1) by omega] at z
    exact z
theorem glb_of {K : PySem.W.Frag} {mg : Str → Option Value} {glb : Nat → D} {l : List Str} (h : EachG K mg glb 0 l) (i : Nat) (x : Str) (e : l[i]? = some x) : ∃ u v, mg x = some u ∧ RelV v u ∧ ∀ r H, RD K r H (glb i) v := by
  have z := glb_at h i x e
  rw [Nat.zero_add] at z
  exact z
/-- what a law's proof still owes: over every script the evaluator answers True -/
theorem walk_G {l : PySem.W.OpenLaw} {m k : Nat} {q : Program} {loose : List Str} {XP : (Str → Option Value) → Heap → Prop} {YP : World → Heap → Prop} {d : DefRec} {K : Params → PySem.W.Frag} {ds : List DR} {cn bn : List Str} {glb : Nat → D} {fuel j : Nat} {r : DR} {x : Str}
    (most : l.most = some m) (msz : m ≤ sizeLine) (nodef : d.params.defaults = []) (room : Room k callerA) (inY : ∀ (w : World) (h : Heap), YP w h → (K w.params).In h)
    (hj : ds[j]? = some r) (hx : r.ps = [x]) (chk : ds.all (DR.chk ds cn bn) = true)
    (F : ∀ (w : World) (mg : Str → Option Value) (fa : Addr) (h : Heap), (K w.params).In h → h.Ns mainGlobals mg → mg d.name = some (.ref fa) →
      Top (K w.params) mg ds cn bn glb ∧ ∃ fd : FuncData, Fun (K w.params) r.x r.x r.st fa fd ∧ ∀ (s : Shared) (u : Value), BindsTo s fd ⟨[u], []⟩ [(x, u)])
    (law : ∀ ns : List Int, ns.length ≤ m → ∃ M, callF (ds.map (·.d)) glb fuel k j [.scr ns] [] = .ok (.v (.bl true)) M) :
    PySem.W.WalkO q loose XP YP l.row.toRowW d [] (fun f vs => PySem.call f vs) := by
  refine Att.attach_call most nodef fun w s0 s1 mg mb fa o pm cd doc a vs ns G Y ho hd hcd hmg hobj hints hlen hg => ?_
  have KX := inY w _ Y
  obtain ⟨tp, fd, W, bnd⟩ := F w mg fa _ KX G.T.g hmg
  refine law_G (sp := spC (K w.params) (clN ds glb fuel k) j) (k := k) KX G.T.g G.T.b G.T.builtins G.T.nolimit hg hobj hints (Nat.le_trans hlen msz) room (fun b _ _ => ?_) bnd fun H only sq => ?_
  · have z := text_ok (P := l.prog) (w := w) (base := b) (fuel := fuel) tp chk k j r fa fd hj W
    rw [hx] at z
    exact z
  · obtain ⟨M, e⟩ := law ns hlen
    refine ⟨[], [], [.scr ns], .v (.bl true), M, ⟨rfl, List.nodup_nil, fun n o h => by simp at h⟩, .cons (.scr fun H' hx => ?_) .nil, e, fun r' H' v _ _ rw => ?_⟩
    · rcases sq with (s | ⟨o, s⟩) | s
      · rcases only a with z | ⟨ob, xs, z⟩
        · rw [z] at s; cases s
        · rw [z] at s; cases s
      · exact Or.inl (Or.inr ⟨o, hx.frz _ _ _ s⟩)
      · exact Or.inr s
    · cases rw
      rfl
end Ev

/-! EvP1: reasoning about what the evaluator computes. -/
namespace Ev
open PySem
def Ok {α : Type} (r : Res α) (P : α → Mem → Prop) : Prop := ∃ a M, r = .ok a M ∧ P a M
section
variable {α β : Type} {r : Res α} {P Q : α → Mem → Prop} {R : β → Mem → Prop}
theorem Ok.ret {a : α} {M : Mem} (h : P a M) : Ok (.ok a M) P := ⟨a, M, rfl, h⟩
theorem Ok.mono (h : Ok r P) (i : ∀ a M, P a M → Q a M) : Ok r Q := let ⟨a, M, e, p⟩ := h; ⟨a, M, e, i a M p⟩
theorem Ok.bind {f : α → Mem → Res β} (h : Ok r P) (i : ∀ a M, P a M → Ok (f a M) R) : Ok (r.bind f) R := by
  obtain ⟨a, M, rfl, p⟩ := h
  exact i a M p
theorem Ok.bindE {f : α → Mem → Res β} {a : α} {M : Mem} (e : r = .ok a M) (i : Ok (f a M) R) : Ok (r.bind f) R := by
  subst e
  exact i
@[simp] theorem rbind_ok {a : α} {M : Mem} {f : α → Mem → Res β} : Res.bind (.ok a M) f = f a M := rfl
theorem rbind_assoc {γ : Type} {r : Res γ} {f : γ → Mem → Res α} {g : α → Mem → Res β} : (r.bind f).bind g = r.bind fun a M => (f a M).bind g := by cases r <;> rfl
@[simp] theorem ropt_some {a : α} {M : Mem} : Res.opt (some a) M = .ok a M := rfl
end
theorem Ok.cons {C : Cl} {a : S} {r : Ss} {s : Env} {M : Mem} {P : Fl → Mem → Prop} (h : Ok (evS C a s M) fun f M1 => match f with
    | .nx s1 => Ok (evSs C r s1 M1) P
    | .bk s1 => P (.bk s1) M1
    | .ct s1 => P (.ct s1) M1
    | .rt w => P (.rt w) M1) : Ok (evSs C (.cons a r) s M) P := by
  rw [evSs]
  refine h.bind fun f M1 q => ?_
  cases f with
  | nx s1 => exact q
  | bk s1 => exact .ret q
  | ct s1 => exact .ret q
  | rt w => exact .ret q
theorem Ok.nil {C : Cl} {s : Env} {M : Mem} {P : Fl → Mem → Prop} (h : P (.nx s) M) : Ok (evSs C .nil s M) P := by
  rw [evSs]; exact .ret h
theorem Ok.ex {C : Cl} {e : E} {s : Env} {M : Mem} {P : Fl → Mem → Prop} (h : Ok (evE C e s M) fun _ M1 => P (.nx s) M1) : Ok (evS C (.expr e) s M) P := by
  rw [evS]; exact h.bind fun w M1 q => .ret q
theorem Ok.rtn {C : Cl} {e : E} {s : Env} {M : Mem} {P : Fl → Mem → Prop} (h : Ok (evE C e s M) fun w M1 => P (.rt w) M1) : Ok (evS C (.ret e) s M) P := by
  rw [evS]; exact h.bind fun w M1 q => .ret q
/-- name = e -/
theorem Ok.asg {C : Cl} {e : E} {i : Nat} {s : Env} {M : Mem} {P : Fl → Mem → Prop} (h : Ok (evE C e s M) fun w M1 => P (.nx (s.set i (some (put w M1).1))) (put w M1).2) : Ok (evS C (.asg (.nm i) e) s M) P := by
  rw [evS]
  refine h.bind fun w M1 q => ?_
  have e3 : asgW (.nm i) M1 w s = some (s.set i (some (put w M1).1), (put w M1).2) := by cases w <;> rfl
  rw [e3]
  exact .ret q
/-- a call, its arguments plain -/
theorem Ok.call {C : Cl} {f : Nat} {es : Es} {s : Env} {M : Mem} {P : W → Mem → Prop} (h : Ok (evEs C es s M) fun l M1 => Ok (C.call f l M1) P) : Ok (evE C (.call f es) s M) P := by
  rw [evE]; exact h.bind fun l M1 q => q
/-! by equations -/
section
variable {C : Cl} {a : S} {r b c' : Ss} {c e : E} {s s1 : Env} {M M1 : Mem} {w : W}
theorem cons_rt (h : evS C a s M = .ok (.rt w) M1) : evSs C (.cons a r) s M = .ok (.rt w) M1 := by rw [evSs, h]; rfl
theorem cons_nx (h : evS C a s M = .ok (.nx s1) M1) : evSs C (.cons a r) s M = evSs C r s1 M1 := by rw [evSs, h]; rfl
theorem nil_nx : evSs C .nil s M = .ok (.nx s) M := by rw [evSs]
theorem ife_t (h : evE C c s M = .ok (.v (.bl true)) M1) : evS C (.ife c b c') s M = evSs C b s M1 := by rw [evS, h]; rfl
theorem ife_f (h : evE C c s M = .ok (.v (.bl false)) M1) : evS C (.ife c b c') s M = evSs C c' s M1 := by rw [evS, h]; rfl
theorem ret_eq (h : evE C e s M = .ok w M1) : evS C (.ret e) s M = .ok (.rt w) M1 := by rw [evS, h]; rfl
theorem asg_eq {i : Nat} (h : evE C e s M = .ok w M1) : evS C (.asg (.nm i) e) s M = .ok (.nx (s.set i (some (put w M1).1))) (put w M1).2 := by
  rw [evS, h, rbind_ok]
  have e3 : asgW (.nm i) M1 w s = some (s.set i (some (put w M1).1), (put w M1).2) := by cases w <;> rfl
  rw [e3]
end
/-! ### loops -/
theorem forL_ok {body : D → Env → Mem → Res Fl} {ss : List (Nat × O)} {P : Fl → Mem → Prop} {l : List D} (I : Nat → Env → Mem → Prop)
    (step : ∀ i d s M, l[i]? = some d → I i s M → Ok (body d s M) fun f M1 => match f with
      | .nx s1 => SrcOk ss M1 ∧ I (i + 1) s1 M1
      | .ct s1 => SrcOk ss M1 ∧ I (i + 1) s1 M1
      | .bk s1 => P (.nx s1) M1
      | .rt w => P (.rt w) M1)
    (fin : ∀ s M, I l.length s M → P (.nx s) M) {s : Env} {M : Mem} (h : I 0 s M) : Ok (forL body ss l s M) P := by
  have go : ∀ (n i : Nat) (s : Env) (M : Mem), i + n = l.length → I i s M → Ok (forL body ss (l.drop i) s M) P := by
    intro n
    induction n with
    | zero =>
      intro i s M e hI
      have ei : i = l.length := by omega
      subst ei
      rw [List.drop_length, forL]
      exact .ret (fin s M hI)
    | succ n ih =>
      intro i s M e hI
      have hlt : i < l.length := by omega
      rw [List.drop_eq_getElem_cons hlt, forL]
      refine (step i l[i] s M (List.getElem?_eq_getElem hlt) hI).bind fun f M1 hp => ?_
      cases f with
      | nx s1 => simp only; rw [if_pos hp.1]; exact ih (i + 1) s1 M1 (by omega) hp.2
      | ct s1 => simp only; rw [if_pos hp.1]; exact ih (i + 1) s1 M1 (by omega) hp.2
      | bk s1 => exact .ret hp
      | rt w => exact .ret hp
  exact go l.length 0 s M (by omega) h
theorem compL_ok {turn : D → Mem → Res (Option D)} {ss : List (Nat × O)} {P : List D → Mem → Prop} {l : List D} (I : Nat → List D → Mem → Prop)
    (step : ∀ i d acc M, l[i]? = some d → I i acc M → Ok (turn d M) fun o M1 => SrcOk ss M1 ∧ I (i + 1) (acc ++ o.toList) M1)
    (fin : ∀ acc M, I l.length acc M → P acc M) {M : Mem} (h : I 0 [] M) : Ok (compL turn ss l M) P := by
  have go : ∀ (n i : Nat) (acc : List D) (M : Mem), i + n = l.length → I i acc M → Ok (compL turn ss (l.drop i) M) fun r M' => P (acc ++ r) M' := by
    intro n
    induction n with
    | zero =>
      intro i acc M e hI
      have ei : i = l.length := by omega
      subst ei
      rw [List.drop_length, compL]
      exact .ret (by rw [List.append_nil]; exact fin acc M hI)
    | succ n ih =>
      intro i acc M e hI
      have hlt : i < l.length := by omega
      rw [List.drop_eq_getElem_cons hlt, compL]
      refine (step i l[i] acc M (List.getElem?_eq_getElem hlt) hI).bind fun o M1 hp => ?_
      rw [if_pos hp.1]
      refine (ih (i + 1) _ M1 (by omega) hp.2).bind fun r M2 q => .ret ?_
      rw [List.append_assoc] at q
      cases o with
      | none => exact q
      | some x => exact q
  exact (go l.length 0 [] M (by omega) h).mono fun a M q => by rw [List.nil_append] at q; exact q
/-- a comprehension that leaves the memory alone -/
theorem compL_pure {turn : D → Mem → Res (Option D)} {ss : List (Nat × O)} {M : Mem} (g : D → Option D) (hs : SrcOk ss M) : ∀ {l : List D}, (∀ d ∈ l, turn d M = .ok (g d) M) → compL turn ss l M = .ok (l.filterMap g) M
  | [], _ => by rw [compL]; rfl
  | d :: r, h => by
    rw [compL, h d (List.mem_cons_self ..), rbind_ok, if_pos hs, compL_pure g hs fun d' hd => h d' (List.mem_cons_of_mem _ hd), rbind_ok, List.filterMap_cons]
    cases g d <;> rfl
theorem whl_ok {c : Env → Mem → Res Bool} {b : Env → Mem → Res Fl} {P : Fl → Mem → Prop} (I : Nat → Env → Mem → Prop)
    (step : ∀ n s M, I n s M → Ok (c s M) fun t M1 => match t with
      | false => P (.nx s) M1
      | true => Ok (b s M1) fun f M2 => match f with
        | .nx s1 => ∃ m, m < n ∧ I m s1 M2
        | .ct s1 => ∃ m, m < n ∧ I m s1 M2
        | .bk s1 => P (.nx s1) M2
        | .rt w => P (.rt w) M2) : ∀ (n fuel : Nat) (s : Env) (M : Mem), n < fuel → I n s M → Ok (whlL c b fuel s M) P := by
  intro n fuel
  induction fuel generalizing n with
  | zero => intro s M h; omega
  | succ k ih =>
    intro s M h hI
    rw [whlL]
    refine (step n s M hI).bind fun t M1 ht => ?_
    cases t with
    | false => exact .ret ht
    | true =>
      refine Ok.bind ht fun f M2 hf => ?_
      cases f with
      | nx s1 => obtain ⟨m, hm, hI2⟩ := hf; exact ih m s1 M2 (by omega) hI2
      | ct s1 => obtain ⟨m, hm, hI2⟩ := hf; exact ih m s1 M2 (by omega) hI2
      | bk s1 => exact .ret hf
      | rt w => exact .ret hf

theorem Ok.comp {C : Cl} {el : E} {tg : Tg} {it : I} {c : Eo} {ws : List Nat} {s : Env} {M : Mem} {P : W → Mem → Prop} (h : Ok (evI C it s M) fun p M1 => Ok (compL (fun d M2 => match asgT tg d (wipeE s ws) with
    | none => .no
    | some s1 => (evT C c s1 M2).bind fun b M3 => match b with
      | false => .ok none M3
      | true => (evE C el s1 M3).put.bind fun x M4 => .ok (some x) M4) p.2 p.1 M1) fun l M2 => P (.fl l) M2) : Ok (evE C (.comp el tg it c ws) s M) P := by
  rw [evE]
  refine h.bind fun p M1 q => ?_
  exact Ok.bind q fun l M2 z => .ret z
theorem Ok.for {C : Cl} {t : Tg} {it : I} {b : Ss} {s : Env} {M : Mem} {P : Fl → Mem → Prop} (h : Ok (evI C it s M) fun p M1 => Ok (forL (fun d s1 M2 => match asgT t d s1 with
    | none => .no
    | some s2 => evSs C b s2 M2) p.2 p.1 s M1) P) : Ok (evS C (.for_ t it b) s M) P := by
  rw [evS]
  exact h.bind fun p M1 q => q
theorem Ok.bi {C : Cl} {f : Bi} {e : E} {s : Env} {M : Mem} {P : W → Mem → Prop} (h : Ok (evE C e s M) fun x M1 => ∃ w, biV2 f M1 x = some w ∧ P w M1) : Ok (evE C (.bi f (.val e)) s M) P := by
  rw [evE]
  refine h.bind fun x M1 ⟨w, e, q⟩ => ?_
  rw [e]
  exact .ret q
theorem Ok.app {C : Cl} {o x : E} {s : Env} {M : Mem} {P : W → Mem → Prop} (h : Ok (evE C o s M) fun w M1 => recL M1 w = true ∧ Ok (evE C x s M1) fun y M2 => ∃ n l, w = .v (.ref n) ∧ (put y M2).2[n]? = some (.lst l) ∧ l.length < 16777216 ∧ P (.v .non) ((put y M2).2.set n (.lst (l ++ [(put y M2).1])))) : Ok (evE C (.app o x) s M) P := by
  rw [evE]
  refine h.bind fun w M1 ⟨r, q⟩ => ?_
  rw [if_neg (by rw [r]; decide)]
  obtain ⟨y, M2, e, n, l, rfl, e1, e2, p⟩ := q
  rw [e]
  simp only [Res.put, rbind_ok, e1, e2, if_true]
  exact .ret p
/-! ### calls -/
mutual
/-- no place in it -/
def D.pure : D → Bool
  | .ref _ => false
  | .tup l => D.pures l
  | .non => true
  | .bl _ => true
  | .int _ => true
  | .str _ => true
  | .scr _ => true
def D.pures : List D → Bool
  | [] => true
  | d :: r => D.pure d && D.pures r
end
mutual
theorem pure_bel (b : Nat) : ∀ {d : D}, d.pure = true → D.bel b d = true
  | .ref _, h => by cases h
  | .tup l, h => by rw [D.bel]; rw [D.pure] at h; exact pures_bel b h
  | .non, _ => rfl
  | .bl _, _ => rfl
  | .int _, _ => rfl
  | .str _, _ => rfl
  | .scr _, _ => rfl
theorem pures_bel (b : Nat) : ∀ {l : List D}, D.pures l = true → D.bels b l = true
  | [], _ => rfl
  | d :: r, h => by rw [D.pures, Bool.and_eq_true] at h; rw [D.bels, pure_bel b h.1, pures_bel b h.2]; rfl
end
theorem pures_all {l : List D} (h : ∀ d ∈ l, d.pure = true) : D.pures l = true := by
  induction l with
  | nil => rfl
  | cons d r ih => rw [D.pures, h d (List.mem_cons_self ..), ih fun x hx => h x (List.mem_cons_of_mem _ hx)]; rfl
/-- a call that answers a plain thing: what it made is gone -/
theorem leave_pure {M M1 : Mem} {d : D} (p : Pre M.length M M1) (h : d.pure = true) : leave M (.v d) M1 = .ok (.v d) (M1.take M.length) := by
  unfold leave
  rw [if_pos p, if_pos (by rw [W.bel]; exact pure_bel _ h)]
theorem pre_app (M X : Mem) : Pre M.length M (M ++ X) := fun i o hi h => .inl (by rw [List.getElem?_append_left hi] at h; exact h)
theorem leave_gar {M X : Mem} {d : D} (h : d.pure = true) : leave M (.v d) (M ++ X) = .ok (.v d) M := by
  rw [leave_pure (pre_app M X) h, List.take_left]
theorem leave_same {M : Mem} {d : D} (h : d.pure = true) : leave M (.v d) M = .ok (.v d) M := by
  have := leave_gar (M := M) (X := []) h
  rwa [List.append_nil] at this
theorem runB_rt {C : Cl} {fd : FD} {l : List D} {M M1 : Mem} {w : W} (hl : l.length = fd.np) (h : evSs C fd.body (l.map some ++ List.replicate (fd.ns - fd.np) none) M = .ok (.rt w) M1) : runB C fd l M = leave M w M1 := by
  unfold runB
  rw [if_pos hl, h]
/-- a def that changes nothing -/
theorem runB_gar {C : Cl} {fd : FD} {l : List D} {M X : Mem} {d : D} (hl : l.length = fd.np) (h : evSs C fd.body (l.map some ++ List.replicate (fd.ns - fd.np) none) M = .ok (.rt (.v d)) (M ++ X)) (hp : d.pure = true) : runB C fd l M = .ok (.v d) M := by
  unfold runB
  rw [if_pos hl, h]
  exact leave_gar hp
theorem runB_pure {C : Cl} {fd : FD} {l : List D} {M : Mem} {d : D} (hl : l.length = fd.np) (h : evSs C fd.body (l.map some ++ List.replicate (fd.ns - fd.np) none) M = .ok (.rt (.v d)) M) (hp : d.pure = true) : runB C fd l M = .ok (.v d) M :=
  runB_gar (X := []) hl (by rw [List.append_nil]; exact h) hp
/-- a def that changes what stands, in a way that is plain -/
theorem runB_ok {C : Cl} {fd : FD} {l : List D} {M : Mem} {P : W → Mem → Prop} (hl : l.length = fd.np)
    (h : Ok (evSs C fd.body (l.map some ++ List.replicate (fd.ns - fd.np) none) M) fun f M1 => match f with
      | .rt w => Ok (leave M w M1) P
      | .nx _ => Ok (leave M (.v .non) M1) P
      | _ => False) : Ok (runB C fd l M) P := by
  unfold runB
  rw [if_pos hl]
  obtain ⟨f, M1, e, q⟩ := h
  rw [e]
  cases f with
  | rt w => exact q
  | nx s => exact q
  | bk s => exact q.elim
  | ct s => exact q.elim
theorem callF_succ {defs : List FD} {glb : Nat → D} {fuel n f : Nat} {l : List D} {M : Mem} {fd : FD} (h : defs[f]? = some fd) : callF defs glb fuel (n + 1) f l M = runB ⟨callF defs glb fuel n, glb, fuel⟩ fd l M := by
  rw [callF, h]
end Ev

/-! EvQ0: odd things: data with lists and dicts in a frame behind a deck; what repr tells of them. -/
namespace Ev
open PySem
/-! ### data that stay, however the memory grows -/
section
variable {f g : Nat → Option PyData} (fg : ∀ n p, f n = some p → g n = some p)
include fg
mutual
theorem pdR_imp : ∀ (d : D) {p : PyData}, d.pdR f = some p → d.pdR g = some p
  | .non, _, h => h
  | .bl _, _, h => h
  | .int _, _, h => h
  | .str _, _, h => h
  | .scr _, _, h => h
  | .ref n, _, h => fg n _ h
  | .tup l, p, h => by
    rw [D.pdR] at h ⊢
    cases e : D.pdRs f l with
    | none => rw [e] at h; cases h
    | some ps => rw [e] at h; rw [pdRs_imp l e]; exact h
theorem pdRs_imp : ∀ (l : List D) {ps : List PyData}, D.pdRs f l = some ps → D.pdRs g l = some ps
  | [], _, h => h
  | d :: l, ps, h => by
    rw [D.pdRs] at h ⊢
    cases e1 : d.pdR f with
    | none => rw [e1] at h; cases h
    | some x =>
      cases e2 : D.pdRs f l with
      | none => rw [e1, e2] at h; cases h
      | some xs => rw [e1, e2] at h; rw [pdR_imp d e1, pdRs_imp l e2]; exact h
end
end
theorem refPd_imp {M M' : Mem} {k k' : Nat} (h0 : k ≤ k') (hM : ∀ (n : Nat) (o : O), M[n]? = some o → M'[n]? = some o) : ∀ n p, refPd M k n = some p → refPd M' k' n = some p := by
  induction k generalizing k' with
  | zero => intro n p h; cases h
  | succ k ih =>
    intro n p h
    cases k' with
    | zero => omega
    | succ k' =>
      have ih := ih (k' := k') (by omega)
      rw [refPd] at h ⊢
      cases hn : M[n]? with
      | none => rw [hn] at h; cases h
      | some o =>
        rw [hn] at h
        rw [hM n o hn]
        cases o with
        | lst l =>
          simp only at h ⊢
          cases e : D.pdRs (refPd M k) l with
          | none => rw [e] at h; cases h
          | some ps => rw [e] at h; rw [pdRs_imp ih l e]; exact h
        | dct l =>
          simp only at h ⊢
          cases e : D.pdRs (refPd M k) (l.map (·.2)) with
          | none => rw [e] at h; cases h
          | some ps => rw [e] at h; rw [pdRs_imp ih _ e]; exact h
        | ins c l => cases h
def Rp (c : Nat) (X : Mem) (r : Nat) (d : D) (p : PyData) : Prop := ∀ g : Mem, g.length = c → d.pdR (refPd (g ++ X) r) = some p
def RpL (c : Nat) (X : Mem) (r : Nat) (l : List D) (ps : List PyData) : Prop := ∀ g : Mem, g.length = c → D.pdRs (refPd (g ++ X) r) l = some ps
theorem grow {g X Y : Mem} : ∀ (n : Nat) (o : O), (g ++ X)[n]? = some o → (g ++ (X ++ Y))[n]? = some o := fun n o h => by
  rw [← List.append_assoc, List.getElem?_append_left (List.getElem?_eq_some_iff.mp h).1]; exact h
theorem Rp.up {c : Nat} {X Y : Mem} {r r' : Nat} {d : D} {p : PyData} (h : Rp c X r d p) (hr : r ≤ r') : Rp c (X ++ Y) r' d p := fun g hg => pdR_imp (refPd_imp hr grow) d (h g hg)
theorem RpL.up {c : Nat} {X Y : Mem} {r r' : Nat} {d : List D} {p : List PyData} (h : RpL c X r d p) (hr : r ≤ r') : RpL c (X ++ Y) r' d p := fun g hg => pdRs_imp (refPd_imp hr grow) d (h g hg)
/-! ### sizes -/
structure Szd (n b : Nat) (p : PyData) : Prop where
  sh : p.showable = true
  dp : p.depth ≤ n
  bk : p.bulk ≤ b
  ls : p.leavesShort 50 = true
structure Szl (n b : Nat) (ps : List PyData) : Prop where
  sh : PyData.showableAll ps = true
  dp : PyData.depthAll ps ≤ n
  bk : PyData.bulkAll ps ≤ b
  ls : PyData.leavesShortAll 50 ps = true
theorem Szl.nil (n b : Nat) : Szl n b [] := ⟨rfl, Nat.zero_le _, Nat.zero_le _, rfl⟩
theorem Szl.cons {n b c e : Nat} {p : PyData} {ps : List PyData} (a : Szd n b p) (t : Szl n c ps) (h : b + 1 + c ≤ e) : Szl n e (p :: ps) := by
  have := a.dp; have := a.bk; have := t.dp; have := t.bk
  exact ⟨by rw [PyData.showableAll, a.sh, t.sh]; rfl, by rw [PyData.depthAll]; omega, by rw [PyData.bulkAll]; omega, by rw [PyData.leavesShortAll, a.ls, t.ls]; rfl⟩
theorem Szl.split {n b : Nat} {p : PyData} {ps : List PyData} (h : Szl n b (p :: ps)) : Szd n b p ∧ Szl n b ps ∧ p.bulk + 1 + PyData.bulkAll ps ≤ b := by
  have h1 := h.sh; have h2 := h.dp; have h3 := h.bk; have h4 := h.ls
  rw [PyData.showableAll, Bool.and_eq_true] at h1
  rw [PyData.depthAll] at h2
  rw [PyData.bulkAll] at h3
  rw [PyData.leavesShortAll, Bool.and_eq_true] at h4
  exact ⟨⟨h1.1, by omega, by omega, h4.1⟩, ⟨h1.2, by omega, by omega, h4.2⟩, h3⟩
theorem Szd.mono {n b n' b' : Nat} {p : PyData} (h : Szd n b p) (hn : n ≤ n') (hb : b ≤ b') : Szd n' b' p := ⟨h.sh, Nat.le_trans h.dp hn, Nat.le_trans h.bk hb, h.ls⟩
theorem Szl.mono {n b n' b' : Nat} {p : List PyData} (h : Szl n b p) (hn : n ≤ n') (hb : b ≤ b') : Szl n' b' p := ⟨h.sh, Nat.le_trans h.dp hn, Nat.le_trans h.bk hb, h.ls⟩
theorem Szl.tup {n b : Nat} {ps : List PyData} (h : Szl n b ps) : Szd (n + 1) b (.tuple ps) := ⟨by rw [PyData.showable]; exact h.sh, by have := h.dp; rw [PyData.depth]; omega, by rw [PyData.bulk]; exact h.bk, by rw [PyData.leavesShort]; exact h.ls⟩
theorem Szl.lst {n b : Nat} {ps : List PyData} (h : Szl n b ps) : Szd (n + 1) b (.list ps) := ⟨by rw [PyData.showable]; exact h.sh, by have := h.dp; rw [PyData.depth]; omega, by rw [PyData.bulk]; exact h.bk, by rw [PyData.leavesShort]; exact h.ls⟩
theorem Szd.untup {n b : Nat} {ps : List PyData} (h : Szd n b (.tuple ps)) : Szl n b ps ∧ 1 ≤ n := by
  have h1 := h.sh; have h2 := h.dp; have h3 := h.bk; have h4 := h.ls
  rw [PyData.showable] at h1
  rw [PyData.depth] at h2
  rw [PyData.bulk] at h3
  rw [PyData.leavesShort] at h4
  exact ⟨⟨h1, by omega, h3, h4⟩, by omega⟩
/-- d is so deep, so much -/
def Gd (c : Nat) (X : Mem) (r n b : Nat) (d : D) : Prop := ∃ p, Rp c X r d p ∧ Szd n b p
def GdL (c : Nat) (X : Mem) (r n b : Nat) (l : List D) : Prop := ∃ ps, RpL c X r l ps ∧ Szl n b ps
section
variable {c : Nat} {X Y : Mem} {r n b : Nat}
theorem Gd.up {r' n' b' : Nat} {d : D} (h : Gd c X r n b d) (hr : r ≤ r') (hn : n ≤ n') (hb : b ≤ b') : Gd c (X ++ Y) r' n' b' d := let ⟨p, h1, h2⟩ := h; ⟨p, h1.up hr, h2.mono hn hb⟩
theorem Gd.mono {r' n' b' : Nat} {d : D} (h : Gd c X r n b d) (hr : r ≤ r') (hn : n ≤ n') (hb : b ≤ b') : Gd c X r' n' b' d := by
  have z := h.up (Y := []) hr hn hb
  rwa [List.append_nil] at z
theorem GdL.up {r' n' b' : Nat} {d : List D} (h : GdL c X r n b d) (hr : r ≤ r') (hn : n ≤ n') (hb : b ≤ b') : GdL c (X ++ Y) r' n' b' d := let ⟨p, h1, h2⟩ := h; ⟨p, h1.up hr, h2.mono hn hb⟩
theorem GdL.mono {r' n' b' : Nat} {d : List D} (h : GdL c X r n b d) (hr : r ≤ r') (hn : n ≤ n') (hb : b ≤ b') : GdL c X r' n' b' d := by
  have z := h.up (Y := []) hr hn hb
  rwa [List.append_nil] at z
theorem GdL.nil : GdL c X r n b [] := ⟨[], fun _ _ => rfl, .nil _ _⟩
theorem GdL.cons {b' e : Nat} {d : D} {l : List D} (a : Gd c X r n b d) (t : GdL c X r n b' l) (h : b + 1 + b' ≤ e) : GdL c X r n e (d :: l) := by
  obtain ⟨p, h1, h2⟩ := a
  obtain ⟨ps, h3, h4⟩ := t
  exact ⟨p :: ps, fun g hg => by rw [D.pdRs, h1 g hg, h3 g hg], .cons h2 h4 h⟩
theorem GdL.split {d : D} {l : List D} (h : GdL c X r n b (d :: l)) : ∃ b1 b2, Gd c X r n b1 d ∧ GdL c X r n b2 l ∧ b1 + 1 + b2 ≤ b := by
  obtain ⟨qs, h1, h2⟩ := h
  have nil4 : (List.replicate c (O.lst []) : Mem).length = c := List.length_replicate
  have key : ∀ g : Mem, g.length = c → ∃ x xs, qs = x :: xs ∧ d.pdR (refPd (g ++ X) r) = some x ∧ D.pdRs (refPd (g ++ X) r) l = some xs := fun g hg => by
    have z := h1 g hg
    rw [D.pdRs] at z
    cases e1 : d.pdR (refPd (g ++ X) r) with
    | none => rw [e1] at z; cases z
    | some x =>
      cases e2 : D.pdRs (refPd (g ++ X) r) l with
      | none => rw [e1, e2] at z; cases z
      | some xs => rw [e1, e2] at z; cases z; exact ⟨x, xs, rfl, rfl, rfl⟩
  obtain ⟨x, xs, e, _, _⟩ := key _ nil4
  subst e
  obtain ⟨s1, s2, s3⟩ := h2.split
  refine ⟨x.bulk, PyData.bulkAll xs, ⟨x, fun g hg => ?_, ⟨s1.sh, s1.dp, Nat.le_refl _, s1.ls⟩⟩, ⟨xs, fun g hg => ?_, ⟨s2.sh, s2.dp, Nat.le_refl _, s2.ls⟩⟩, s3⟩
  · obtain ⟨_, _, e, e1, _⟩ := key g hg
    cases e; exact e1
  · obtain ⟨_, _, e, _, e2⟩ := key g hg
    cases e; exact e2
theorem GdL.app {b' e : Nat} : ∀ {l m : List D} {b : Nat}, GdL c X r n b l → GdL c X r n b' m → b + b' ≤ e → GdL c X r n e (l ++ m)
  | [], m, b, _, h, i => h.mono (Nat.le_refl _) (Nat.le_refl _) (by omega)
  | d :: l, m, b, h, t, i => by
    obtain ⟨b1, b2, h1, h2, h3⟩ := h.split
    exact GdL.cons h1 (GdL.app (e := b2 + b') h2 t (Nat.le_refl _)) (by omega)
theorem GdL.unapp : ∀ {l m : List D} {b : Nat}, GdL c X r n b (l ++ m) → ∃ b1 b2, GdL c X r n b1 l ∧ GdL c X r n b2 m ∧ b1 + b2 ≤ b
  | [], m, b, h => ⟨0, b, .nil, h, by omega⟩
  | d :: l, m, b, h => by
    obtain ⟨b1, b2, h1, h2, h3⟩ := GdL.split h
    obtain ⟨b3, b4, h4, h5, h6⟩ := GdL.unapp h2
    exact ⟨b1 + 1 + b3, b4, GdL.cons h1 h4 (Nat.le_refl _), h5, by omega⟩
theorem GdL.mem : ∀ {l : List D} {b : Nat} {d : D}, GdL c X r n b l → d ∈ l → Gd c X r n b d
  | e :: l, b, d, h, hd => by
    obtain ⟨b1, b2, h1, h2, h3⟩ := GdL.split h
    rcases List.mem_cons.mp hd with rfl | hd
    · exact h1.mono (Nat.le_refl _) (Nat.le_refl _) (by omega)
    · exact (GdL.mem h2 hd).mono (Nat.le_refl _) (Nat.le_refl _) (by omega)
theorem GdL.rev : ∀ {l : List D} {b : Nat}, GdL c X r n b l → GdL c X r n b l.reverse
  | [], b, h => h
  | d :: l, b, h => by
    obtain ⟨b1, b2, h1, h2, h3⟩ := GdL.split h
    rw [List.reverse_cons]
    exact GdL.app (GdL.rev h2) (GdL.cons h1 (GdL.nil (b := 0)) (Nat.le_refl _)) (by omega)
theorem GdL.len : ∀ {l : List D} {b : Nat}, GdL c X r n b l → l.length ≤ b
  | [], b, h => Nat.zero_le _
  | d :: l, b, h => by
    obtain ⟨b1, b2, h1, h2, h3⟩ := GdL.split h
    have := GdL.len h2
    rw [List.length_cons]; omega
theorem GdL.tup {l : List D} (h : GdL c X r n b l) : Gd c X r (n + 1) b (.tup l) := by
  obtain ⟨ps, h1, h2⟩ := h
  exact ⟨.tuple ps, fun g hg => by rw [D.pdR, h1 g hg], h2.tup⟩
theorem Gd.untup {l : List D} (h : Gd c X r n b (.tup l)) : GdL c X r n b l := by
  obtain ⟨p, h1, h2⟩ := h
  have key : ∀ g : Mem, g.length = c → ∃ ps, p = .tuple ps ∧ D.pdRs (refPd (g ++ X) r) l = some ps := fun g hg => by
    have z := h1 g hg
    rw [D.pdR] at z
    cases e : D.pdRs (refPd (g ++ X) r) l with
    | none => rw [e] at z; cases z
    | some ps => rw [e] at z; cases z; exact ⟨ps, rfl, rfl⟩
  obtain ⟨ps, e, _⟩ := key (List.replicate c (O.lst [])) List.length_replicate
  subst e
  refine ⟨ps, fun g hg => ?_, h2.untup.1⟩
  obtain ⟨_, e, e2⟩ := key g hg
  cases e; exact e2
/-- a new list -/
theorem GdL.lst {l : List D} (h : GdL c X r n b l) : Gd c (X ++ [.lst l]) (r + 1) (n + 1) b (.ref (c + X.length)) := by
  obtain ⟨ps, h1, h2⟩ := h
  refine ⟨.list ps, fun g hg => ?_, h2.lst⟩
  have e : (g ++ (X ++ [O.lst l]))[c + X.length]? = some (.lst l) := by
    rw [← List.append_assoc, List.getElem?_append_right (by simp [hg])]
    simp [hg]
  rw [D.pdR, refPd, e]
  simp only
  rw [pdRs_imp (refPd_imp (Nat.le_refl r) grow) l (h1 g hg)]
theorem Gd.non : Gd c X r n b .non := ⟨.none, fun _ _ => rfl, rfl, Nat.zero_le _, Nat.zero_le _, rfl⟩
theorem Gd.bl (i : Bool) : Gd c X r n b (.bl i) := ⟨.bool i, fun _ _ => rfl, rfl, Nat.zero_le _, Nat.zero_le _, rfl⟩
theorem Gd.int {i : Int} (hi : i.natAbs < 10 ^ 40) : Gd c X r n b (.int i) := by
  refine ⟨.int i, fun _ _ => rfl, ?_, Nat.zero_le _, Nat.zero_le _, ?_⟩
  · rw [PyData.showable, decide_eq_true_eq]
    by_cases h0 : i.natAbs = 0
    · rw [h0]; decide
    · refine (Nat.log2_lt h0).mpr (Nat.lt_of_lt_of_le hi ?_)
      exact Nat.le_trans (show (10 : Nat) ^ 40 ≤ 2 ^ 140 by decide) (Nat.pow_le_pow_right (by decide) (by decide))
  · rw [PyData.leavesShort, decide_eq_true_eq]
    have z := PySem.int_text_length_le10 (a := i) (k := 40) (by decide) hi
    have e : (PyData.shown (.int i)).length = (toString i).length := by
      exact ofString_length _
    omega
theorem Gd.str {s : Str} (h1 : s.cps.size ≤ b) (h2 : (s.cps.toList.all fun c => decide (c < 16 ^ 8)) = true) : Gd c X r n b (.str s) := ⟨.str s, fun _ _ => rfl, rfl, Nat.zero_le _, by rw [PyData.bulk]; exact h1, by rw [PyData.leavesShort]; exact h2⟩
/-- an empty dict, new -/
theorem Gd.dct0 : Gd c (X ++ [.dct []]) (r + 1) (n + 1) b (.ref (c + X.length)) := by
  refine ⟨.dict [], fun g hg => ?_, rfl, by rw [PyData.depth]; exact Nat.succ_le_succ (Nat.zero_le _), Nat.zero_le _, rfl⟩
  have e : (g ++ (X ++ [O.dct []]))[c + X.length]? = some (.dct []) := by
    rw [← List.append_assoc, List.getElem?_append_right (by simp [hg])]
    simp [hg]
  rw [D.pdR, refPd, e]
  rfl
theorem Gd.ints {l : List Int} (h : ∀ i ∈ l, i.natAbs < 10 ^ 40) (hl : l.length ≤ b) : GdL c X r n b (l.map .int) := by
  induction l generalizing b with
  | nil => exact .nil
  | cons i l ih =>
    rw [List.length_cons] at hl
    exact GdL.cons (b := 0) (b' := b - 1) (Gd.int (h i (List.mem_cons_self ..))) (ih (b := b - 1) (fun j hj => h j (List.mem_cons_of_mem _ hj)) (by omega)) (by omega)
end
/-! ### repr -/
theorem Szd.ok {n b : Nat} {p : PyData} (h : Szd n b p) (hn : n ≤ 60) (hb : b ≤ 300000) : p.showable = true ∧ p.depth ≤ 64 ∧ p.shown.length ≤ 16777216 := by
  have hl := PyData.shown_le_bulk 50 (by decide) p h.ls
  have := h.bk
  have := h.dp
  exact ⟨h.sh, by omega, by omega⟩
theorem Gd.repr {c : Nat} {X : Mem} {r n b : Nat} {d : D} (h : Gd c X r n b d) (hr : r ≤ 4) (hn : n ≤ 60) (hb : b ≤ 300000) : ∃ z, ∀ g : Mem, g.length = c → reprW (g ++ X) (.v d) = some z := by
  obtain ⟨p, h1, h2⟩ := h
  refine ⟨p.shown, fun g hg => ?_⟩
  have ep : pdW (g ++ X) (.v d) = some p := pdR_imp (refPd_imp hr fun _ _ h => h) d (h1 g hg)
  simp only [reprW, ep]
  exact if_pos (h2.ok hn hb)
theorem GdL.repr {c : Nat} {X : Mem} {r n b : Nat} {l : List D} (h : GdL c X r n b l) (hr : r ≤ 4) (hn : n ≤ 50) (hb : b ≤ 300000) : ∃ z, ∀ g : Mem, g.length = c → reprW (g ++ X) (.fl l) = some z := by
  obtain ⟨ps, h1, h2⟩ := h
  refine ⟨(PyData.list ps).shown, fun g hg => ?_⟩
  have e : D.pdRs (refPd (g ++ X) 4) l = some ps := pdRs_imp (refPd_imp hr fun _ _ h => h) l (h1 g hg)
  have ep : pdW (g ++ X) (.fl l) = some (.list ps) := by simp only [pdW, e]
  simp only [reprW, ep]
  exact if_pos ((Szl.lst h2).ok (by omega) hb)
end Ev

/-! EvH: the first deck of cells. -/
namespace Ev
open PySem
def deckB : Ss := (.cons (.asg (.nm 1) (.comp (.abs (.var 2)) (.nm 2) (.val (.var 0)) .none [2]))
  (.cons (.ret (.lst (.cons (.comp (.var 2) (.nm 2) (.val (.var 1)) (.some (.cmp .ge (.var 2) (.bop .pow (.num 10) (.num 18)))) [2]) (.cons (.bop .add (.var 1) (.lst (.cons (.bop .add (.len (.var 1)) (.num 5)) .nil))) (.cons (.num 0) .nil)))))
  .nil))
def nextB : Ss := (.cons (.whl (.cmp .ne (.ix (.var 0) (.num 0)) (.lst .nil))
  (.cons (.asg (.nm 4) (.ix (.ix (.var 0) (.num 0)) (.num 0)))
  (.cons (.ife (.cmp .gt (.var 4) (.num 0))
  (.cons (.setix (.ix (.var 0) (.num 0)) (.num 0) (.bop .fdiv (.var 4) (.var 1)))
  (.cons (.ret (.bop .mod (.var 4) (.var 1)))
  .nil))
  .nil)
  (.cons (.expr (.popi (.ix (.var 0) (.num 0)) (.num 0)))
  .nil))))
  (.cons (.setix (.var 0) (.num 2) (.bop .add (.ix (.var 0) (.num 2)) (.num 1)))
  (.cons (.asg (.nm 2) (.bop .mod (.ix (.ix (.var 0) (.num 1)) (.bop .mod (.ix (.var 0) (.num 2)) (.len (.ix (.var 0) (.num 1))))) (.num 2147483647)))
  (.cons (.asg (.nm 3) (.bop .add (.bop .add (.bop .mul (.var 2) (.bop .add (.num 48271) (.bop .mul (.num 40692) (.ix (.var 0) (.num 2))))) (.bop .mul (.bop .mul (.num 69621) (.ix (.var 0) (.num 2))) (.ix (.var 0) (.num 2)))) (.num 13)))
  (.cons (.asg (.nm 3) (.bop .mod (.var 3) (.num 2147483629)))
  (.cons (.ret (.bop .mod (.bop .fdiv (.bop .mod (.bop .mul (.var 3) (.var 3)) (.num 2147483587)) (.num 16)) (.var 1)))
  .nil))))))
def dk (g : O) (rs ps : List Int) (c : Int) : Mem := [g, .lst (rs.map .int), .lst (ps.map .int), .lst [.ref 1, .ref 2, .int c]]
structure DkOk (rs ps : List Int) (c : Int) : Prop where
  r0 : ∀ x ∈ rs, 0 ≤ x
  p0 : ∀ x ∈ ps, 0 ≤ x
  ne : ps ≠ []
  c0 : 0 ≤ c
  rl : rs.length ≤ 63
/-- at most B cells were drawn behind the great ones -/
def Dk (B : Nat) (X M : Mem) : Prop := ∃ (g rs ps : List Int) (c : Int), DkOk rs ps c ∧ c ≤ (B : Int) ∧ M = dk (.lst (g.map .int)) rs ps c ++ X
theorem Dk.mono {B B' : Nat} {X M : Mem} (h : Dk B X M) (i : B ≤ B') : Dk B' X M := by
  obtain ⟨g, rs, ps, c, h1, h2, h3⟩ := h
  exact ⟨g, rs, ps, c, h1, by omega, h3⟩
theorem pds_ints (f : Nat → Option PyData) : ∀ ns : List Int, D.pdRs f (ns.map .int) = some (ns.map .int)
  | [] => rfl
  | n :: r => by rw [List.map_cons, D.pdRs, pds_ints f r]; rfl
theorem lay_ints : ∀ ns : List Int, PyData.canLayAll0 (ns.map .int) = true
  | [] => rfl
  | n :: r => by rw [List.map_cons, PyData.canLayAll0, lay_ints r]; rfl
theorem pdEq_nil (ns : List Int) : pdEq (some (.list (ns.map .int))) (some (.list [])) = some (decide (ns = [])) := by
  unfold pdEq
  have h1 : (PyData.list (ns.map .int)).canLay0 = true := by rw [PyData.canLay0]; exact lay_ints ns
  have h2 : (PyData.list []).canLay0 = true := rfl
  have h3 : min (PyData.list (ns.map .int)).depth (PyData.list []).depth ≤ 64 := Nat.le_trans (Nat.min_le_right _ _) (by decide)
  simp only [h1, h2, h3, and_self, if_true]
  cases ns with
  | nil => rfl
  | cons n r => rfl
section
variable {C : Cl} {g : O} {rs ps : List Int} {c : Int} {X : Mem}
theorem dk0 : (dk g rs ps c ++ X)[3]? = some (.lst [.ref 1, .ref 2, .int c]) := rfl
theorem dk1 : (dk g rs ps c ++ X)[1]? = some (.lst (rs.map .int)) := rfl
theorem dk2 : (dk g rs ps c ++ X)[2]? = some (.lst (ps.map .int)) := rfl
theorem next_cond (s : Env) (h : s[0]? = some (some (.ref 3))) : ((evE C (.cmp .ne (.ix (.var 0) (.num 0)) (.lst .nil)) s (dk g rs ps c ++ X)).bind fun x M2 => .opt (toB x) M2) = .ok (!decide (rs = [])) (dk g rs ps c ++ X) := by
  simp only [evE, evEs, h, rbind_ok, ixW, asQ, asT, asL, dk0]
  simp [L2.atI, L2.ixN, cmpW, eqW, pdW, pdD, D.pdR, refPd, dk1, pds_ints, D.pdRs, pdEq_nil, toB]
theorem ixI' {α : Type} {l : List α} {k : Nat} {d : α} (h : l[k]? = some d) : L2.atI l (k : Int) = some d := by
  have hk := (List.getElem?_eq_some_iff.mp h).1
  unfold L2.atI L2.ixN
  rw [if_pos (Int.natCast_nonneg _), if_pos (by omega)]
  simpa using h
theorem ixI {l : List D} {k : Nat} {d : D} (h : l[k]? = some d) : L2.atI l (k : Int) = some d := by
  have hk := (List.getElem?_eq_some_iff.mp h).1
  unfold L2.atI L2.ixN
  rw [if_pos (Int.natCast_nonneg _), if_pos (by omega)]
  simpa using h
theorem dkset1 {r : List D} {rs' : List Int} (h : r = rs'.map .int) : (dk g rs ps c ++ X).set 1 (.lst r) = dk g rs' ps c ++ X := by subst h; rfl
theorem dkset1' {y : Int} {rs' : List Int} : (dk g rs ps c ++ X).set 1 (.lst (D.int y :: rs'.map .int)) = dk g (y :: rs') ps c ++ X := rfl
theorem dkset0 {c' : Int} : (dk g rs ps c ++ X).set 3 (.lst [.ref 1, .ref 2, .int c']) = dk g rs ps c' ++ X := rfl
theorem atI0 {α : Type} {a : α} {l : List α} : L2.atI (a :: l) 0 = some a := ixI' (k := 0) rfl
theorem seq0 {n : Nat} : seqIx (n + 1) 0 = some 0 := by
  unfold seqIx L2.ixN
  rw [if_pos (Int.le_refl _), if_pos (by omega)]
  rfl
theorem at30 {α : Type} {a b c : α} : L2.atI [a, b, c] 0 = some a := rfl
theorem at31 {α : Type} {a b c : α} : L2.atI [a, b, c] 1 = some b := rfl
theorem at32 {α : Type} {a b c : α} : L2.atI [a, b, c] 2 = some c := rfl
theorem mulm (z w : Int) : CMulE (z % 2147483629) w := .inl (by
  have b1 := Int.emod_nonneg z (show (2147483629 : Int) ≠ 0 by decide)
  have b2 := Int.emod_lt_of_pos z (show (0 : Int) < 2147483629 by decide)
  omega)
theorem next_ok (hf : 100 ≤ C.fuel) {many : Int} (h0 : 0 < many) (h1 : many < 2 ^ 60) {B : Nat} (hB : B < 2 ^ 60) {M : Mem} (h : Dk B X M) :
    Ok (runB C ⟨2, 5, nextB⟩ [.ref 3, .int many] M) fun w M' => ∃ v : Int, w = .v (.int v) ∧ 0 ≤ v ∧ v < many ∧ Dk (B + 1) X M' := by
  refine runB_ok rfl ?_
  show Ok (evSs C nextB [some (.ref 3), some (.int many), none, none, none] M) _
  have lv : ∀ {M1 : Mem} {v : Int}, M1.length = M.length → Pre M.length M M1 → leave M (.v (.int v)) M1 = .ok (.v (.int v)) M1 := fun e p => by rw [leave_pure p rfl, ← e, List.take_length]
  obtain ⟨g0, rs, ps, c, ok, cB, rfl⟩ := h
  obtain ⟨g, hg⟩ : ∃ g, g = O.lst (g0.map .int) := ⟨_, rfl⟩
  rw [← hg] at lv ⊢
  have fin : ∀ {rs' : List Int} {c' : Int} {v : Int}, DkOk rs' ps c' → c' ≤ ((B + 1 : Nat) : Int) → 0 ≤ v → v < many → Ok (leave (dk g rs ps c ++ X) (.v (.int v)) (dk g rs' ps c' ++ X)) fun w M' => ∃ v : Int, w = .v (.int v) ∧ 0 ≤ v ∧ v < many ∧ Dk (B + 1) X M' := by
    intro rs' c' v ok' cB' h3 h4
    rw [lv (by rfl) ?_]
    · exact .ret ⟨v, rfl, h3, h4, g0, rs', ps, c', ok', cB', by rw [hg]⟩
    · intro i o hi e
      rcases i with _ | _ | _ | _ | i
      · exact .inl e
      · right
        cases e
        exact pures_bel _ (pures_all fun d hd => by obtain ⟨x, _, rfl⟩ := List.mem_map.mp hd; rfl)
      · exact .inl e
      · right
        cases e
        have hl : 4 ≤ (dk g rs ps c ++ X).length := by rw [List.length_append]; exact Nat.le_add_right 4 _
        simp only [O.bel, D.bels, D.bel, Bool.and_true, Bool.and_eq_true, decide_eq_true_eq]
        omega
      · exact .inl e
  unfold nextB
  rw [evSs]
  refine Ok.bind (P := fun f M1 => match f with
    | .nx s1 => ∃ q r, s1 = [some (.ref 3), some (.int many), q, none, r] ∧ M1 = dk g [] ps c ++ X
    | .rt w => ∃ v : Int, ∃ rs', w = .v (.int v) ∧ 0 ≤ v ∧ v < many ∧ DkOk rs' ps c ∧ M1 = dk g rs' ps c ++ X
    | _ => False) ?_ ?_
  · rw [evS]
    refine whl_ok (fun n s M1 => ∃ q r rs', s = [some (.ref 3), some (.int many), q, none, r] ∧ DkOk rs' ps c ∧ M1 = dk g rs' ps c ++ X ∧ n = rs'.length) ?_ rs.length C.fuel _ _ (by have := ok.rl; omega) ⟨_, _, rs, rfl, ok, rfl, rfl⟩
    rintro n s M1 ⟨q, r, rs', rfl, ok', rfl, rfl⟩
    rw [next_cond _ rfl]
    refine .ret ?_
    cases rs' with
    | nil => exact ⟨q, r, rfl, rfl⟩
    | cons x rs' =>
      have hx := ok'.r0 x (List.mem_cons_self ..)
      simp only [List.cons_ne_nil, decide_false, Bool.not_false]
      have h1' : many < 1152921504606846976 := h1
      by_cases hx0 : 0 < x
      · have q0 : 0 ≤ x / many := Int.ediv_nonneg hx (by omega)
        have ok2 : DkOk (x / many :: rs') ps c := ⟨fun y hy => by rcases List.mem_cons.mp hy with rfl | hy; exact q0; exact ok'.r0 y (List.mem_cons_of_mem _ hy), ok'.p0, ok'.ne, ok'.c0, ok'.rl⟩
        simp [evSs, evS, evE, ixW, asQ, asT, asL, dk0, dk1, atI0, seq0, asgW, asgT, put, cmpW, toB, hx0, Res.put, opW, CDivE, h0, h1', dkset1']
        exact .ret ⟨x % many, rfl, Int.emod_nonneg _ (by omega), Int.emod_lt_of_pos _ h0, x / many :: rs', ok2, rfl⟩
      · have ok2 : DkOk rs' ps c := ⟨fun y hy => ok'.r0 y (List.mem_cons_of_mem _ hy), ok'.p0, ok'.ne, ok'.c0, by have := ok'.rl; rw [List.length_cons] at this; omega⟩
        simp [evSs, evS, evE, ixW, asQ, asT, asL, dk0, dk1, atI0, seq0, asgW, asgT, put, cmpW, toB, hx0, Res.put, opW, recL]
        exact .ret ⟨rs'.length, Nat.lt_succ_self _, ⟨q, _, rfl⟩, rs', ok2, rfl, rfl⟩
  · rintro f M1 hp
    cases f with
    | rt w =>
      obtain ⟨v, rs', rfl, h2, h3, h4, rfl⟩ := hp
      exact .ret (fin h4 (by omega) h2 h3)
    | nx s1 =>
      obtain ⟨q, r, rfl, rfl⟩ := hp
      have hc := ok.c0
      have hl : 0 < ps.length := List.length_pos_iff.mpr ok.ne
      obtain ⟨y, hy⟩ : ∃ y, ps[((c + 1) % (ps.length : Int)).toNat]? = some y := by
        refine ⟨_, List.getElem?_eq_getElem ?_⟩
        have a1 := Int.emod_lt_of_pos (c + 1) (show (0 : Int) < ps.length by omega)
        have a2 := Int.emod_nonneg (c + 1) (show (ps.length : Int) ≠ 0 by omega)
        omega
      have hat : L2.atI (ps.map D.int) ((c + 1) % (ps.length : Int)) = some (.int y) := by
        have a2 := Int.emod_nonneg (c + 1) (show (ps.length : Int) ≠ 0 by omega)
        rw [← Int.toNat_of_nonneg a2]
        exact ixI' (by rw [List.getElem?_map, hy]; rfl)
      have s32 : seqIx 3 2 = some 2 := rfl
      have hd : CMulE 40692 (c + 1) := .inl (by decide)
      have he : CMulE 69621 (c + 1) := .inl (by decide)
      have b1 := Int.emod_nonneg y (show (2147483647 : Int) ≠ 0 by decide)
      have b2 := Int.emod_lt_of_pos y (show (0 : Int) < 2147483647 by decide)
      have cB2 : c ≤ (B : Int) := cB
      have hh : CMulE (69621 * (c + 1)) (c + 1) := .inr ⟨by omega, by omega⟩
      have hg : CMulE (y % 2147483647) (48271 + 40692 * (c + 1)) := .inl ⟨by omega, by omega⟩
      simp [evSs, evS, evE, ixW, asQ, asT, asL, dk0, dk2, asgW, asgT, put, cmpW, toB, Res.put, opW, at30, at31, at32, s32, dkset0, lenW, hl, hat, hd, he, hg, hh, mulm, CDivE, h0]
      have z := fun {v : Int} => fin (c' := c + 1) (rs' := []) (v := v) ⟨(fun x hx => by cases hx), ok.p0, ok.ne, by omega, Nat.zero_le _⟩ (by omega)
      exact .ret (z (Int.emod_nonneg _ (by omega)) (Int.emod_lt_of_pos _ h0))
    | _ => exact hp.elim
end
end Ev

/-! EvH2: what is drawn from the deck. -/
namespace Ev
open PySem
/-! ### memories with a deck -/
theorem Dk.len {B : Nat} {X M : Mem} (h : Dk B X M) : M.length = 4 + X.length := by
  obtain ⟨g, rs, ps, c, _, _, rfl⟩ := h
  rw [List.length_append]; rfl
theorem Dk.push {B : Nat} {X M : Mem} (h : Dk B X M) (o : O) : Dk B (X ++ [o]) (M ++ [o]) := by
  obtain ⟨g, rs, ps, c, h1, h2, rfl⟩ := h
  exact ⟨g, rs, ps, c, h1, h2, by rw [List.append_assoc]⟩
theorem Dk.get {B : Nat} {X M : Mem} (h : Dk B X M) (i : Nat) : M[4 + i]? = X[i]? := by
  obtain ⟨g, rs, ps, c, _, _, rfl⟩ := h
  rw [List.getElem?_append_right (by show 4 ≤ 4 + i; omega)]
  show X[4 + i - 4]? = _
  rw [Nat.add_sub_cancel_left]
theorem Dk.set {B : Nat} {X M : Mem} (h : Dk B X M) (i : Nat) (o : O) : Dk B (X.set i o) (M.set (4 + i) o) := by
  obtain ⟨g, rs, ps, c, h1, h2, rfl⟩ := h
  refine ⟨g, rs, ps, c, h1, h2, ?_⟩
  rw [List.set_append_right _ _ (by show 4 ≤ 4 + i; omega)]
  show dk _ _ _ _ ++ X.set (4 + i - 4) o = _
  rw [Nat.add_sub_cancel_left]
theorem Dk.last {B : Nat} {X M : Mem} {o : O} (h : Dk B (X ++ [o]) M) : M[4 + X.length]? = some o := by
  rw [h.get, List.getElem?_append_right (Nat.le_refl _), Nat.sub_self]; rfl
theorem Dk.setLast {B : Nat} {X M : Mem} {o : O} (h : Dk B (X ++ [o]) M) (o' : O) : Dk B (X ++ [o']) (M.set (4 + X.length) o') := by
  have z := h.set X.length o'
  rwa [List.set_append_right _ _ (Nat.le_refl _), Nat.sub_self] at z
theorem ints_bel (b : Nat) (l : List Int) : D.bels b (l.map .int) = true := pures_bel _ (pures_all fun d hd => by obtain ⟨x, _, rfl⟩ := List.mem_map.mp hd; rfl)
theorem Dk.pre {B B' : Nat} {X Y M M1 : Mem} (h : Dk B X M) (h1 : Dk B' (X ++ Y) M1) : Pre M.length M M1 := by
  have hl := h.len
  obtain ⟨g, rs, ps, c, _, _, rfl⟩ := h
  obtain ⟨g', rs', ps', c', _, _, rfl⟩ := h1
  intro i o hi e
  rcases i with _ | _ | _ | _ | i
  · right; cases e; exact ints_bel _ _
  · right; cases e; exact ints_bel _ _
  · right; cases e; exact ints_bel _ _
  · right
    cases e
    simp only [O.bel, D.bels, D.bel, Bool.and_true, Bool.and_eq_true, decide_eq_true_eq]
    omega
  · left
    have h4 : i < X.length := by omega
    have e' : (X ++ Y)[i]? = some o := e
    rw [List.getElem?_append_left h4] at e'
    exact e'
theorem Dk.cut {B B' : Nat} {X Y M M1 : Mem} (h : Dk B X M) (h1 : Dk B' (X ++ Y) M1) : Dk B' X (M1.take M.length) := by
  have hl := h.len
  obtain ⟨g', rs', ps', c', q1, q2, rfl⟩ := h1
  refine ⟨g', rs', ps', c', q1, q2, ?_⟩
  rw [← List.append_assoc, List.take_left']
  rw [List.length_append, hl]; rfl
theorem Dk.leave {B B' : Nat} {X Y M M1 : Mem} {d : D} (h : Dk B X M) (h1 : Dk B' (X ++ Y) M1) (p : d.pure = true) {P : W → Mem → Prop} (q : ∀ M', Dk B' X M' → P (.v d) M') : Ok (leave M (.v d) M1) P := by
  rw [leave_pure (h.pre h1) p]
  exact .ret (q _ (h.cut h1))
theorem Dk.leave0 {B B' : Nat} {X M M1 : Mem} {d : D} (h : Dk B X M) (h1 : Dk B' X M1) (p : d.pure = true) {P : W → Mem → Prop} (q : ∀ M', Dk B' X M' → P (.v d) M') : Ok (Ev.leave M (.v d) M1) P :=
  h.leave (Y := []) (by rw [List.append_nil]; exact h1) p q

/-! ### a number below, one of some -/
def Nx (C : Cl) (f : Nat) : Prop := ∀ {many : Int} {B : Nat} {X M : Mem}, 0 < many → many < 2 ^ 60 → B < 2 ^ 60 → Dk B X M → Ok (C.call f [.ref 3, .int many] M) fun w M' => ∃ v : Int, w = .v (.int v) ∧ 0 ≤ v ∧ v < many ∧ Dk (B + 1) X M'
def oneB (n : Nat) : Ss := (.cons (.ret (.ix (.var 1) (.call n (.cons (.var 0) (.cons (.len (.var 1)) .nil)))))
  .nil)
def roomB (n o : Nat) : Ss := (.cons (.asg (.nm 2) (.call o (.cons (.var 0) (.cons (.lst (.cons (.num 0) (.cons (.num 1) (.cons (.num 1) (.cons (.num 2) (.cons (.num 3) (.cons (.num 5) .nil))))))) .nil))))
  (.cons (.asg (.nm 3) (.call o (.cons (.var 0) (.cons (.lst (.cons (.num 1) (.cons (.num 2) (.cons (.bop .pow (.num 10) (.num 12)) (.cons (.bop .sub (.bop .pow (.num 10) (.num 12)) (.call n (.cons (.var 0) (.cons (.num 3) .nil)))) (.cons (.call n (.cons (.var 0) (.cons (.bop .pow (.num 10) (.num 12)) .nil))) .nil)))))) .nil))))
  (.cons (.ret (.ix (.lst (.cons (.var 2) (.cons (.var 3) .nil))) (.toint (.var 1))))
  .nil)))
def orderB (n : Nat) : Ss := (.cons (.asg (.nm 2) (.lst .nil))
  (.cons (.for_ (.nm 3) (.val (.var 1))
  (.cons (.expr (.ins (.var 2) (.call n (.cons (.var 0) (.cons (.bop .add (.len (.var 2)) (.num 1)) .nil))) (.var 3)))
  .nil))
  (.cons (.ret (.bi .tuple (.val (.var 2))))
  .nil)))
def roadB (n m : Nat) : Ss := (.cons (.asg (.nm 3) (.call n (.cons (.var 0) (.cons (.bop .add (.var 1) (.num 1)) .nil))))
  (.cons (.asg (.nm 4) (.bop .mod (.bop .add (.bop .add (.var 3) (.num 1)) (.call n (.cons (.var 0) (.cons (.var 1) .nil)))) (.bop .add (.var 1) (.num 1))))
  (.cons (.asg (.tp (.cons (.nm 5) (.cons (.nm 6) .nil))) (.comp (.ix (.lst (.cons .non (.cons (.bop .sub (.var 7) (.num 1)) .nil))) (.toint (.cmp .gt (.var 7) (.num 0)))) (.nm 7) (.val (.tup (.cons (.var 3) (.cons (.var 4) .nil)))) .none [7]))
  (.cons (.ret (.tup (.cons (.var 5) (.cons (.var 6) (.cons (.call m (.cons (.var 0) (.cons (.var 2) .nil))) .nil)))))
  .nil))))
def webB (n o r : Nat) : Ss := (.cons (.asg (.nm 4) (.bop .add (.num 1) (.call n (.cons (.var 0) (.cons (.var 1) .nil)))))
  (.cons (.asg (.nm 5) (.comp (.call r (.cons (.var 0) (.cons (.var 4) (.cons (.var 3) .nil)))) (.nm 10) (.rng1 (.bop .add (.num 1) (.call n (.cons (.var 0) (.cons (.var 2) .nil))))) .none [10]))
  (.cons (.asg (.nm 6) (.lst .nil))
  (.cons (.for_ (.nm 7) (.val (.tup (.cons (.num 0) (.cons (.num 1) .nil))))
  (.cons (.asg (.nm 8) (.lst .nil))
  (.cons (.for_ (.nm 9) (.rng1 (.var 4))
  (.cons (.expr (.app (.var 8) (.call o (.cons (.var 0) (.cons (.comp (.var 10) (.nm 10) (.rng1 (.len (.var 5))) (.some (.cmp .eq (.ix (.ix (.var 5) (.var 10)) (.var 7)) (.var 9))) [10]) .nil)))))
  .nil))
  (.cons (.expr (.app (.var 6) (.bi .tuple (.val (.var 8)))))
  .nil))))
  (.cons (.ret (.tup (.cons (.bi .tuple (.val (.var 5))) (.cons (.ix (.var 6) (.num 0)) (.cons (.ix (.var 6) (.num 1)) .nil)))))
  .nil)))))
section
variable {C : Cl}
/-- the q-th of the frame's objects is that list -/
def LstAt (X : Mem) (q : Nat) (l : List D) : Prop := 4 ≤ q ∧ X[q - 4]? = some (.lst l)
theorem LstAt.get {B : Nat} {X M : Mem} {q : Nat} {l : List D} (a : LstAt X q l) (h : Dk B X M) : M[q]? = some (.lst l) := by
  have z := h.get (q - 4)
  rw [show 4 + (q - 4) = q by have := a.1; omega] at z
  rw [z]; exact a.2
theorem LstAt.app {X Y : Mem} {q : Nat} {l : List D} (a : LstAt X q l) : LstAt (X ++ Y) q l := ⟨a.1, by rw [List.getElem?_append_left (List.getElem?_eq_some_iff.mp a.2).1]; exact a.2⟩
theorem LstAt.last {X : Mem} {l : List D} : LstAt (X ++ [.lst l]) (4 + X.length) l := ⟨by omega, by rw [Nat.add_sub_cancel_left, List.getElem?_append_right (Nat.le_refl _), Nat.sub_self]; rfl⟩
theorem LstAt.lastN {X : Mem} {l : List D} {q : Nat} (e : q = 4 + X.length) : LstAt (X ++ [.lst l]) q l := by subst e; exact LstAt.last
theorem atI_get {l : List D} {v : Int} (h0 : 0 ≤ v) (h : v < l.length) : ∃ d, L2.atI l v = some d ∧ d ∈ l := by
  have hk : v.toNat < l.length := by omega
  refine ⟨l[v.toNat], ?_, List.getElem_mem hk⟩
  have z := ixI' (l := l) (k := v.toNat) (d := l[v.toNat]) (List.getElem?_eq_getElem hk)
  rwa [Int.toNat_of_nonneg h0] at z
theorem one_ok {n : Nat} (hn : Nx C n) {B : Nat} {X M : Mem} {q : Nat} {l : List D} (hB : B < 2 ^ 60) (h : Dk B X M) (a : LstAt X q l) (hl : l ≠ []) (hz : l.length ≤ 1000) (hp : ∀ d ∈ l, d.pure = true) :
    Ok (runB C ⟨2, 2, oneB n⟩ [.ref 3, .ref q] M) fun w M' => ∃ d, w = .v d ∧ d ∈ l ∧ Dk (B + 1) X M' := by
  refine runB_ok rfl ?_
  show Ok (evSs C (oneB n) [some (.ref 3), some (.ref q)] M) _
  have hpos := List.length_pos_iff.mpr hl
  refine Ok.cons (Ok.rtn ?_)
  simp [evS, evE, evEs, evI, evO, evT, rbind_ok, ropt_some, Res.put, put, asgW, asgT, asgTs, ixW, asQ, asT, asL, asM, cmpW, opW, toB, toI, lenW, recL, recQ, isTy, eqW, scalEq, a.get h]
  refine (hn (by omega) (by omega) hB h).bind fun w M1 ⟨v, e, h0, h1, h2⟩ => ?_
  subst e
  obtain ⟨d, e1, e2⟩ := atI_get h0 h1
  simp [evS, evE, evEs, evI, evO, evT, rbind_ok, ropt_some, Res.put, put, asgW, asgT, asgTs, ixW, asQ, asT, asL, asM, cmpW, opW, toB, toI, lenW, recL, recQ, isTy, eqW, scalEq, a.get h2, e1]
  exact .ret (h.leave0 h2 (hp d e2) fun M' q => ⟨d, rfl, e2, q⟩)
def One (C : Cl) (f : Nat) : Prop := ∀ {B : Nat} {X M : Mem} {q : Nat} {l : List D}, B < 2 ^ 60 → Dk B X M → LstAt X q l → l ≠ [] → l.length ≤ 1000 → (∀ d ∈ l, d.pure = true) → Ok (C.call f [.ref 3, .ref q] M) fun w M' => ∃ d, w = .v d ∧ d ∈ l ∧ Dk (B + 1) X M'
end
end Ev

/-! EvH3: rooms, orders. -/
namespace Ev
open PySem
section
variable {C : Cl} {n o : Nat} {B : Nat} {X M : Mem}
theorem room_ok (hn : Nx C n) (ho : One C o) (far : Bool) (hB : B + 10 < 2 ^ 60) (h : Dk B X M) :
    Ok (runB C ⟨2, 4, roomB n o⟩ [.ref 3, .bl far] M) fun w M' => ∃ v : Int, w = .v (.int v) ∧ 0 ≤ v ∧ v ≤ 10 ^ 12 ∧ (far = false → v ≤ 5) ∧ Dk (B + 4) X M' := by
  refine runB_ok rfl ?_
  show Ok (evSs C (roomB n o) [some (.ref 3), some (.bl far), none, none] M) _
  refine Ok.cons (Ok.asg (Ok.call ?_))
  simp [evS, evE, evEs, evI, evO, evT, rbind_ok, ropt_some, Res.put, put, asgW, asgT, asgTs, ixW, asQ, asT, asL, asM, cmpW, opW, toB, toI, lenW, recL, recQ, isTy, eqW, scalEq, h.len]
  refine .ret ((ho (by omega) (h.push _) LstAt.last (by simp) (by simp) (by simp [D.pure])).mono fun w M1 ⟨d, e, hd, h1⟩ => ?_)
  subst e
  obtain ⟨a, rfl, ha⟩ : ∃ a : Int, d = .int a ∧ 0 ≤ a ∧ a ≤ 5 := by
    simp at hd
    rcases hd with rfl | rfl | rfl | rfl | rfl <;> exact ⟨_, rfl, by decide, by decide⟩
  clear hd
  refine Ok.cons (Ok.asg (Ok.call ?_))
  simp [evS, evE, evEs, evI, evO, evT, rbind_ok, ropt_some, Res.put, put, asgW, asgT, asgTs, ixW, asQ, asT, asL, asM, cmpW, opW, toB, toI, lenW, recL, recQ, isTy, eqW, scalEq, CPowE]
  simp only [rbind_assoc]
  refine (hn (many := 3) (by decide) (by decide) (by omega) h1).bind fun w M2 ⟨u, e, u0, u1, h2⟩ => ?_
  subst e
  simp [evS, evE, evEs, evI, evO, evT, rbind_ok, ropt_some, Res.put, put, asgW, asgT, asgTs, ixW, asQ, asT, asL, asM, cmpW, opW, toB, toI, lenW, recL, recQ, isTy, eqW, scalEq]
  refine (hn (many := 1000000000000) (by decide) (by decide) (by omega) h2).bind fun w M3 ⟨v, e, v0, v1, h3⟩ => ?_
  subst e
  simp [evS, evE, evEs, evI, evO, evT, rbind_ok, ropt_some, Res.put, put, asgW, asgT, asgTs, ixW, asQ, asT, asL, asM, cmpW, opW, toB, toI, lenW, recL, recQ, isTy, eqW, scalEq, h3.len]
  refine .ret ((ho (by omega) (h3.push _) (LstAt.lastN (by simp)) (by simp) (by simp) (by simp [D.pure])).mono fun w M4 ⟨d, e, hd, h4⟩ => ?_)
  subst e
  obtain ⟨b, rfl, hb⟩ : ∃ a : Int, d = .int a ∧ 0 ≤ a ∧ a ≤ 10 ^ 12 := by
    simp at hd
    rcases hd with rfl | rfl | rfl | rfl | rfl
    · exact ⟨_, rfl, by decide, by decide⟩
    · exact ⟨_, rfl, by decide, by decide⟩
    · exact ⟨_, rfl, by decide, by decide⟩
    · exact ⟨_, rfl, by omega, by omega⟩
    · exact ⟨_, rfl, by omega, by omega⟩
  clear hd
  refine Ok.cons (Ok.rtn ?_)
  rw [List.append_assoc] at h4
  cases far with
  | false =>
    simp [evS, evE, evEs, evI, evO, evT, rbind_ok, ropt_some, Res.put, put, asgW, asgT, asgTs, ixW, asQ, asT, asL, asM, cmpW, opW, toB, toI, lenW, recL, recQ, isTy, eqW, scalEq, atI0]
    exact .ret (h.leave h4 rfl fun M' q => ⟨a, rfl, ha.1, by omega, ha.2, q⟩)
  | true =>
    have e1 : L2.atI [D.int a, D.int b] 1 = some (.int b) := rfl
    simp [evS, evE, evEs, evI, evO, evT, rbind_ok, ropt_some, Res.put, put, asgW, asgT, asgTs, ixW, asQ, asT, asL, asM, cmpW, opW, toB, toI, lenW, recL, recQ, isTy, eqW, scalEq, e1]
    exact .ret (h.leave h4 rfl fun M' q => ⟨b, rfl, hb.1, by omega, q⟩)
/-- a row in some order -/
theorem insAt_perm {α : Type} (l : List D) (k : Nat) (x : D) : (insAt l k x).Perm (l ++ [x]) := by
  unfold insAt
  refine List.perm_middle.trans ?_
  rw [List.take_append_drop]
  exact (List.perm_append_singleton x l).symm
theorem order_ok (hn : Nx C n) {q : Nat} {ns : List Int} (hz : ns.length ≤ 1000) (hB : B + ns.length + 10 < 2 ^ 60) (h : Dk B X M) (a : LstAt X q (ns.map .int)) :
    Ok (runB C ⟨2, 4, orderB n⟩ [.ref 3, .ref q] M) fun w M' => ∃ r : List Int, w = .v (.tup (r.map .int)) ∧ r.Perm ns ∧ Dk (B + ns.length) X M' := by
  refine runB_ok rfl ?_
  show Ok (evSs C (orderB n) [some (.ref 3), some (.ref q), none, none] M) _
  refine Ok.cons (Ok.asg ?_)
  simp [evS, evE, evEs, evI, evO, evT, rbind_ok, ropt_some, Res.put, put, asgW, asgT, asgTs, ixW, asQ, asT, asL, asM, cmpW, opW, toB, toI, lenW, recL, recQ, isTy, eqW, scalEq, h.len]
  refine .ret ?_
  have h1 := h.push (.lst [])
  have a1 : LstAt (X ++ [.lst []]) q (ns.map .int) := a.app
  refine Ok.cons ?_
  simp [evS, evE, evEs, evI, evO, evT, rbind_ok, ropt_some, Res.put, put, asgW, asgT, asgTs, ixW, asQ, asT, asL, asM, cmpW, opW, toB, toI, lenW, recL, recQ, isTy, eqW, scalEq, a1.get h1]
  refine forL_ok (fun i s M1 => ∃ (x : Option D) (fs : List Int), s = [some (.ref 3), some (.ref q), some (.ref (4 + X.length)), x] ∧ fs.Perm (ns.take i) ∧ Dk (B + i) (X ++ [.lst (fs.map .int)]) M1) ?_ ?_ ⟨none, [], by simp [h.len], by simp, by simpa using h1⟩
  · rintro i d s M1 hd ⟨x, fs, rfl, hp, h2⟩
    rw [List.getElem?_map] at hd
    obtain ⟨m, hm, rfl⟩ := Option.map_eq_some_iff.mp hd
    have him : i < ns.length := (List.getElem?_eq_some_iff.mp hm).1
    have hlen : fs.length = i := by rw [hp.length_eq, List.length_take]; omega
    simp only [asgT]
    refine Ok.cons (Ok.ex ?_)
    simp [evS, evE, evEs, evI, evO, evT, rbind_ok, ropt_some, Res.put, put, asgW, asgT, asgTs, ixW, asQ, asT, asL, asM, cmpW, opW, toB, toI, lenW, recL, recQ, isTy, eqW, scalEq, h2.last]
    refine (hn (by omega) (by omega) (by omega) h2).bind fun w M2 ⟨v, e, v0, v1, h3⟩ => ?_
    subst e
    have hlz : fs.length < 16777216 := by omega
    have hv : v < 4611686018427387904 := by omega
    simp [evS, evE, evEs, evI, evO, evT, rbind_ok, ropt_some, Res.put, put, asgW, asgT, asgTs, ixW, asQ, asT, asL, asM, cmpW, opW, toB, toI, lenW, recL, recQ, isTy, eqW, scalEq, h3.last, v0, hlz, hv]
    refine .ret (Ok.nil ?_)
    have h4 := h3.setLast (.lst (insAt (fs.map .int) v.toNat (.int m)))
    have hins : insAt (fs.map D.int) v.toNat (.int m) = (fs.take v.toNat ++ m :: fs.drop v.toNat).map .int := by unfold insAt; rw [List.map_append, List.map_cons, List.map_take, List.map_drop]
    refine ⟨?_, ⟨some (.int m), rfl⟩, fs.take v.toNat ++ m :: fs.drop v.toNat, ?_, ?_⟩
    · intro p hp'
      have a2 : LstAt (X ++ [O.lst (insAt (fs.map .int) v.toNat (.int m))]) q (ns.map .int) := a.app
      have a3 := a1.get h1
      simp only [srcs, a1.get h1] at hp'
      rw [List.mem_singleton.mp hp']
      exact a2.get h4
    · rw [List.take_succ, hm]
      refine List.perm_middle.trans ?_
      rw [List.take_append_drop]
      exact (List.perm_append_singleton m fs).symm.trans (hp.append_right _)
    · rw [hins] at h4 ⊢
      have e9 : B + i + 1 = B + (i + 1) := by omega
      rw [e9] at h4
      exact h4
  · rintro s M1 ⟨x, fs, rfl, hp, h2⟩
    rw [List.length_map] at hp h2
    refine Ok.cons (Ok.rtn ?_)
    rw [List.take_length] at hp
    simp [evS, evE, evEs, evI, evO, evT, rbind_ok, ropt_some, Res.put, put, asgW, asgT, asgTs, ixW, asQ, asT, asL, asM, cmpW, opW, toB, toI, lenW, recL, recQ, isTy, eqW, scalEq, h2.last, biV2, biT2, biV, biW]
    exact .ret (h.leave h2 (by rw [D.pure]; exact pures_all fun d hd => by obtain ⟨x, _, rfl⟩ := List.mem_map.mp hd; rfl) fun M' q => ⟨fs, rfl, hp, q⟩)
end
end Ev

/-! EvH4: roads. -/
namespace Ev
open PySem
def endD : Option Nat → D
  | none => .non
  | some k => .int (k : Nat)
structure Way where
  b : Option Nat
  e : Option Nat
  r : Int
def Way.d (w : Way) : D := .tup [endD w.b, endD w.e, .int w.r]
structure Way.Ok (n : Nat) (w : Way) : Prop where
  b0 : ∀ k, w.b = some k → k < n
  e0 : ∀ k, w.e = some k → k < n
  ne : w.b ≠ w.e
  r0 : 0 ≤ w.r
  r1 : w.r ≤ 10 ^ 12
theorem endD_pure (o : Option Nat) : (endD o).pure = true := by cases o <;> rfl
theorem Way.pure (w : Way) : w.d.pure = true := by
  rw [Way.d, D.pure]
  exact pures_all fun d hd => by
    simp at hd
    rcases hd with rfl | rfl | rfl
    · exact endD_pure _
    · exact endD_pure _
    · rfl
/-- a number as an end -/
def endOf (x : Int) : Option Nat := if 0 < x then some (x - 1).toNat else none
theorem srcNil (M : Mem) : SrcOk [] M := fun p hp => by cases hp
def Rm (C : Cl) (f : Nat) : Prop := ∀ (far : Bool) {B : Nat} {X M : Mem}, B + 10 < 2 ^ 60 → Dk B X M → Ok (C.call f [.ref 3, .bl far] M) fun w M' => ∃ v : Int, w = .v (.int v) ∧ 0 ≤ v ∧ v ≤ 10 ^ 12 ∧ (far = false → v ≤ 5) ∧ Dk (B + 4) X M'
section
variable {C : Cl} {n m : Nat} {B : Nat} {X M : Mem}
theorem mod_far {a v n : Int} (ha : 0 ≤ a) (ha2 : a < n + 1) (hv : 0 ≤ v) (hv2 : v < n) : 0 ≤ (a + 1 + v) % (n + 1) ∧ (a + 1 + v) % (n + 1) < n + 1 ∧ (a + 1 + v) % (n + 1) ≠ a := by
  refine ⟨Int.emod_nonneg _ (by omega), Int.emod_lt_of_pos _ (by omega), ?_⟩
  by_cases h : a + 1 + v < n + 1
  · rw [Int.emod_eq_of_lt (by omega) h]; omega
  · have e : (a + 1 + v) % (n + 1) = a + 1 + v - (n + 1) := by
      rw [← Int.sub_emod_right, Int.emod_eq_of_lt (by omega) (by omega)]
    rw [e]; omega
theorem endOf_ne {x y : Int} (hx : 0 ≤ x) (hy : 0 ≤ y) (h : y ≠ x) : endOf x ≠ endOf y := by
  unfold endOf
  split <;> split <;> intro e <;> first | (injection e with e; omega) | (exfalso; omega) | cases e
theorem endOf_lt {x n : Int} {k : Nat} (hx : x < n + 1) (h : endOf x = some k) : (k : Int) < n := by
  unfold endOf at h
  split at h
  · cases h; omega
  · cases h
theorem road_ok (hn : Nx C n) (hm : Rm C m) {hs : Nat} (far : Bool) (h1 : 0 < hs) (h2 : hs ≤ 1000) (hB : B + 100 < 2 ^ 60) (h : Dk B X M) :
    Ok (runB C ⟨3, 8, roadB n m⟩ [.ref 3, .int hs, .bl far] M) fun w M' => ∃ y : Way, w = .v y.d ∧ y.Ok hs ∧ (far = false → y.r ≤ 5) ∧ Dk (B + 6) X M' := by
  refine runB_ok rfl ?_
  show Ok (evSs C (roadB n m) [some (.ref 3), some (.int hs), some (.bl far), none, none, none, none, none] M) _
  refine Ok.cons (Ok.asg (Ok.call ?_))
  simp [evS, evE, evEs, evI, evO, evT, rbind_ok, ropt_some, Res.put, put, asgW, asgT, asgTs, ixW, asQ, asT, asL, asM, cmpW, opW, toB, toI, lenW, recL, recQ, isTy, eqW, scalEq]
  refine .ret ((hn (by omega) (by omega) (by omega) h).mono fun w M1 ⟨a, e, a0, a1, g1⟩ => ?_)
  subst e
  refine Ok.cons (Ok.asg ?_)
  simp [evS, evE, evEs, evI, evO, evT, rbind_ok, ropt_some, Res.put, put, asgW, asgT, asgTs, ixW, asQ, asT, asL, asM, cmpW, opW, toB, toI, lenW, recL, recQ, isTy, eqW, scalEq]
  simp only [rbind_assoc]
  refine (hn (by omega) (by omega) (by omega) g1).bind fun w M2 ⟨v, e, v0, v1, g2⟩ => ?_
  subst e
  obtain ⟨c0, c1, c2⟩ := mod_far a0 a1 v0 v1
  have hpos : 0 < (hs : Int) + 1 := by omega
  simp [evS, evE, evEs, evI, evO, evT, rbind_ok, ropt_some, Res.put, put, asgW, asgT, asgTs, ixW, asQ, asT, asL, asM, cmpW, opW, toB, toI, lenW, recL, recQ, isTy, eqW, scalEq, hpos]
  refine .ret ?_
  generalize (a + 1 + v) % ((hs : Int) + 1) = c at c0 c1 c2
  refine Ok.cons ?_
  simp only [evS, evE, evI, evEs, List.getElem?_cons_succ, List.getElem?_cons_zero, rbind_ok, Res.put, put, List.set, asQ, asT, Option.map_some, ropt_some, srcs]
  have key : ∀ x : Int, 0 ≤ x → ixW M2 (.fl [.non, .int (x - 1)]) (.v (.int (if decide (0 < x) = true then 1 else 0))) = some (.v (endD (endOf x))) := by
    intro x hx
    by_cases hp : 0 < x
    · have e : L2.atI [D.non, D.int (x - 1)] 1 = some (.int (x - 1)) := rfl
      simp [ixW, asQ, asT, asL, hp, e, endOf, endD]
      omega
    · simp [ixW, asQ, asT, asL, hp, atI0, endOf, endD]
  rw [compL_pure (fun d => match d with | .int x => some (endD (endOf x)) | _ => none) (srcNil M2) ?_]
  · simp [asgW, asgTs, asgT]
    refine .ret (Ok.cons (Ok.rtn ?_))
    simp [evS, evE, evEs, evI, evO, evT, rbind_ok, ropt_some, Res.put, put, asgW, asgT, asgTs, ixW, asQ, asT, asL, asM, cmpW, opW, toB, toI, lenW, recL, recQ, isTy, eqW, scalEq]
    simp only [rbind_assoc]
    refine (hm far (by omega) g2).bind fun w M3 ⟨r, e, r0, r1, r2, g3⟩ => ?_
    subst e
    simp [evS, evE, evEs, evI, evO, evT, rbind_ok, ropt_some, Res.put, put, asgW, asgT, asgTs, ixW, asQ, asT, asL, asM, cmpW, opW, toB, toI, lenW, recL, recQ, isTy, eqW, scalEq]
    refine .ret (h.leave0 g3 (Way.pure ⟨endOf a, endOf c, r⟩) fun M' q => ⟨⟨endOf a, endOf c, r⟩, rfl, ⟨fun k hk => ?_, fun k hk => ?_, endOf_ne a0 c0 c2, r0, by simpa using r1⟩, r2, q⟩)
    · have := endOf_lt a1 hk; omega
    · have := endOf_lt c1 hk; omega
  · intro d hd
    obtain ⟨x, rfl, hx⟩ : ∃ x, d = .int x ∧ 0 ≤ x := by
      simp at hd
      rcases hd with rfl | rfl
      · exact ⟨_, rfl, a0⟩
      · exact ⟨_, rfl, c0⟩
    simp only [asgT, wipeE, List.set, evT, rbind_ok, evE, evEs, List.getElem?_cons_succ, List.getElem?_cons_zero, Res.put, put, opW, ropt_some, cmpW, Option.map_some]
    rw [key x hx]
    rfl
end
end Ev

/-! EvH5: webs. -/
namespace Ev
open PySem
def Way.side (sd : Nat) (w : Way) : Option Nat := if sd = 0 then w.b else w.e
def want (ws : List Way) (sd h : Nat) : List Nat := (List.range ws.length).filter fun k => decide ((ws[k]?.bind (Way.side sd)) = some h)
def rowD (r : List Nat) : D := .tup (r.map fun k => .int (k : Nat))
structure Web where
  n : Nat
  ws : List Way
  o0 : List (List Nat)
  o1 : List (List Nat)
def Web.d (w : Web) : D := .tup [.tup (w.ws.map Way.d), .tup (w.o0.map rowD), .tup (w.o1.map rowD)]
def RowsOk (ws : List Way) (sd n : Nat) (rs : List (List Nat)) : Prop := rs.length = n ∧ ∀ (h : Nat) (r : List Nat), rs[h]? = some r → r.Perm (want ws sd h)
structure Web.Ok (hs rs : Nat) (w : Web) : Prop where
  n1 : 1 ≤ w.n
  n2 : w.n ≤ hs
  m1 : 1 ≤ w.ws.length
  m2 : w.ws.length ≤ rs
  wo : ∀ y ∈ w.ws, y.Ok w.n
  p0 : RowsOk w.ws 0 w.n w.o0
  p1 : RowsOk w.ws 1 w.n w.o1
theorem rowD_pure (r : List Nat) : (rowD r).pure = true := by
  rw [rowD, D.pure]
  exact pures_all fun d hd => by obtain ⟨x, _, rfl⟩ := List.mem_map.mp hd; rfl
theorem Web.pure (w : Web) : w.d.pure = true := by
  rw [Web.d, D.pure]
  refine pures_all fun d hd => ?_
  simp at hd
  rcases hd with rfl | rfl | rfl
  · rw [D.pure]; exact pures_all fun d hd => by obtain ⟨x, _, rfl⟩ := List.mem_map.mp hd; exact Way.pure x
  · rw [D.pure]; exact pures_all fun d hd => by obtain ⟨x, _, rfl⟩ := List.mem_map.mp hd; exact rowD_pure x
  · rw [D.pure]; exact pures_all fun d hd => by obtain ⟨x, _, rfl⟩ := List.mem_map.mp hd; exact rowD_pure x
def Od (C : Cl) (f : Nat) : Prop := ∀ {B : Nat} {X M : Mem} {q : Nat} {ns : List Int}, ns.length ≤ 1000 → B + ns.length + 10 < 2 ^ 60 → Dk B X M → LstAt X q (ns.map .int) → Ok (C.call f [.ref 3, .ref q] M) fun w M' => ∃ r : List Int, w = .v (.tup (r.map .int)) ∧ r.Perm ns ∧ Dk (B + ns.length) X M'
def RdS (C : Cl) (f : Nat) : Prop := ∀ (far : Bool) {hs B : Nat} {X M : Mem}, 0 < hs → hs ≤ 1000 → B + 100 < 2 ^ 60 → Dk B X M → Ok (C.call f [.ref 3, .int hs, .bl far] M) fun w M' => ∃ y : Way, w = .v y.d ∧ y.Ok hs ∧ (far = false → y.r ≤ 5) ∧ Dk (B + 6) X M'
theorem Dk.mid {B : Nat} {A Z M : Mem} {o : O} (h : Dk B (A ++ o :: Z) M) : M[4 + A.length]? = some o := by
  rw [h.get, List.getElem?_append_right (Nat.le_refl _), Nat.sub_self]; rfl
theorem Dk.setMid {B : Nat} {A Z M : Mem} {o : O} (h : Dk B (A ++ o :: Z) M) (o' : O) : Dk B (A ++ o' :: Z) (M.set (4 + A.length) o') := by
  have z := h.set A.length o'
  rwa [List.set_append_right _ _ (Nat.le_refl _), Nat.sub_self] at z
theorem LstAt.mid {A Z : Mem} {l : List D} {q : Nat} (e : q = 4 + A.length) : LstAt (A ++ .lst l :: Z) q l := by
  subst e
  exact ⟨by omega, by rw [Nat.add_sub_cancel_left, List.getElem?_append_right (Nat.le_refl _), Nat.sub_self]; rfl⟩
theorem scalEnd (o : Option Nat) (h : Nat) : scalEq (endD o) (.int h) = some (decide (o = some h)) := by
  cases o with
  | none => rfl
  | some k =>
    show some (decide ((k : Int) = h)) = _
    congr 1
    have e : ((k : Int) = h) ↔ ((some k : Option Nat) = some h) := by rw [Option.some.injEq]; omega
    exact decide_eq_decide.mpr e
theorem ixWay (M : Mem) (w : Way) {sd : Nat} (h : sd < 2) : ixW M (.v w.d) (.v (.int sd)) = some (.v (endD (w.side sd))) := by
  have : sd = 0 ∨ sd = 1 := by omega
  rcases this with rfl | rfl
  · rfl
  · rfl
theorem filt {α β γ : Type} (a : α → β) (f : α → γ) (p : α → Bool) (g : β → Option γ) : ∀ (L : List α), (∀ k ∈ L, g (a k) = if p k = true then some (f k) else none) → (L.map a).filterMap g = (L.filter p).map f
  | [], _ => rfl
  | k :: r, h => by
    have z := h k (List.mem_cons_self ..)
    have ih := filt a f p g r fun x hx => h x (List.mem_cons_of_mem _ hx)
    rw [List.map_cons, List.filterMap_cons, z, List.filter_cons]
    cases p k with
    | true => simp [ih]
    | false => simp [ih]
theorem rng_nat (m : Nat) : rngD 0 (m : Int) = (List.range m).map fun k => .int (k : Nat) := by
  unfold rngD
  simp
theorem perm_nat {ks : List Nat} {r : List Int} (h : r.Perm (ks.map fun k : Nat => (k : Int))) : ∃ t : List Nat, r = t.map (fun k : Nat => (k : Int)) ∧ t.Perm ks := by
  refine ⟨r.map Int.toNat, ?_, ?_⟩
  · rw [List.map_map]
    have : ∀ x ∈ r, ((fun k : Nat => (k : Int)) ∘ Int.toNat) x = x := fun x hx => by
      obtain ⟨k, _, rfl⟩ := List.mem_map.mp (h.mem_iff.mp hx)
      simp
    rw [List.map_congr_left this, List.map_id']
  · have z := h.map Int.toNat
    rw [List.map_map] at z
    have e : (Int.toNat ∘ fun k : Nat => (k : Int)) = id := by funext k; simp
    rwa [e, List.map_id] at z
theorem want_len (ws : List Way) (sd h : Nat) : (want ws sd h).length ≤ ws.length := by
  unfold want
  exact Nat.le_trans (List.length_filter_le _ _) (by rw [List.length_range]; exact Nat.le_refl _)
theorem rng_if {α : Type} {a b : Int} (h : RngOk a b) (x : α) : (if RngOk a b then some x else none) = some x := if_pos h
theorem rng1_ok {C : Cl} {e : E} {s : Env} {M M1 : Mem} {k : Int} (h : evE C e s M = .ok (.v (.int k)) M1) (r : RngOk 0 k) : evI C (.rng1 e) s M = .ok (rngD 0 k, []) M1 := by
  rw [evI, h, rbind_ok]
  have z : ((toI (.v (.int k))).bind fun i => if RngOk 0 i then some (rngD 0 i, ([] : List (Nat × O))) else none) = some (rngD 0 k, []) := rng_if r _
  rw [z, ropt_some]
theorem rngOk_small {n : Nat} (h : n ≤ 1000) : RngOk 0 (n : Int) := by
  unfold RngOk
  exact ⟨by omega, by omega, by omega, by omega, by omega⟩
section
variable {C : Cl} {n o r : Nat} {B : Nat} {X M : Mem}
/-- the roads of a house, in a row -/
theorem rows_comp {ws : List Way} {q sd hh : Nat} {s : Env} (hs : sd < 2) (e5 : s[5]? = some (some (.ref q))) (e7 : s[7]? = some (some (.int sd))) (e9 : s[9]? = some (some (.int hh))) (e10 : 10 < s.length) (a : LstAt X q (ws.map Way.d)) (hz : ws.length ≤ 1000) (h : Dk B X M) :
    evE C (.comp (.var 10) (.nm 10) (.rng1 (.len (.var 5))) (.some (.cmp .eq (.ix (.ix (.var 5) (.var 10)) (.var 7)) (.var 9))) [10]) s M = .ok (.fl ((want ws sd hh).map fun k => .int (k : Nat))) M := by
  have hr : RngOk 0 (ws.length : Int) := rngOk_small hz
  have hl : evE C (.len (.var 5)) s M = .ok (.v (.int (ws.length : Nat))) M := by
    simp only [evE, e5, rbind_ok, lenW, asQ, asT, asL, a.get h, List.length_map, Option.map_some, ropt_some]
  have hi := rng1_ok hl hr
  rw [evE, hi, rbind_ok]
  rw [rng_nat, compL_pure (fun d => match d with | .int x => if (ws[x.toNat]?.bind (Way.side sd)) = some hh then some (.int x) else none | _ => none) (srcNil M) ?_, rbind_ok]
  · congr 2
    unfold want
    exact filt _ _ _ _ _ fun k hk => by simp
  · intro d hd
    obtain ⟨k, hk, rfl⟩ := List.mem_map.mp hd
    have hk : k < ws.length := List.mem_range.mp hk
    have hat : L2.atI (ws.map Way.d) (k : Int) = some ws[k].d := ixI' (by rw [List.getElem?_map, List.getElem?_eq_getElem hk]; rfl)
    have hw : wipeE s [10] = s.set 10 none := rfl
    simp only [asgT, evT, evE, hw, List.set_set, List.getElem?_set_ne (show (10 : Nat) ≠ 5 by decide), List.getElem?_set_ne (show (10 : Nat) ≠ 7 by decide), List.getElem?_set_ne (show (10 : Nat) ≠ 9 by decide), List.getElem?_set_self e10, e5, e7, e9, rbind_ok]
    have i1 : ixW M (.v (.ref q)) (.v (.int (k : Nat))) = some (.v ws[k].d) := by
      simp only [ixW, asQ, asT, asL, a.get h, hat, Option.map_some]
    rw [i1]
    simp only [ropt_some, rbind_ok, ixWay M ws[k] hs, cmpW, eqW, scalEnd, Option.map_some, toB]
    have g : ws[((k : Nat) : Int).toNat]?.bind (Way.side sd) = ws[k].side sd := by rw [Int.toNat_natCast, List.getElem?_eq_getElem hk]; rfl
    rw [g]
    by_cases c : ws[k].side sd = some hh
    · simp [c, Res.put, put]
    · simp [c]
end
end Ev

/-! EvH6: a web is made. -/
namespace Ev
open PySem
section
variable {C : Cl} {n o r : Nat} {B : Nat} {X M : Mem}
theorem rng1_okE {e : E} {s : Env} {P : List D × List (Nat × O) → Mem → Prop} (h : Ok (evE C e s M) fun w M1 => ∃ k : Nat, w = .v (.int k) ∧ k ≤ 1000 ∧ P (rngD 0 k, []) M1) : Ok (evI C (.rng1 e) s M) P := by
  obtain ⟨w, M1, e, k, rfl, hk, p⟩ := h
  rw [rng1_ok e (rngOk_small hk)]
  exact .ret p
theorem at_map {α : Type} {f : α → D} {l : List α} {i : Nat} {d : D} (h : (l.map f)[i]? = some d) : ∃ a, l[i]? = some a ∧ d = f a := by
  rw [List.getElem?_map] at h
  obtain ⟨a, h1, h2⟩ := Option.map_eq_some_iff.mp h
  exact ⟨a, h1, h2.symm⟩
theorem rng_at {m i : Nat} {d : D} (h : (rngD 0 (m : Int))[i]? = some d) : d = .int (i : Nat) ∧ i < m := by
  rw [rng_nat] at h
  obtain ⟨a, h1, h2⟩ := at_map h
  have hi := (List.getElem?_eq_some_iff.mp h1).1
  rw [List.length_range] at hi
  rw [List.getElem?_range hi] at h1
  cases h1
  exact ⟨h2, hi⟩
theorem rng_len (m : Nat) : (rngD 0 (m : Int)).length = m := by rw [rng_nat, List.length_map, List.length_range]
/-- the rows of one side -/
theorem side_ok (ho : Od C o) {ws : List Way} {A Y : Mem} {q nn sd : Nat} {s : Env} (hsd : sd < 2) (hz : ws.length ≤ 1000) (hn : nn ≤ 1000) (hB : B + nn * 1000 + 10000 < 2 ^ 60)
    (e0 : s[0]? = some (some (.ref 3))) (e4 : s[4]? = some (some (.int nn))) (e5 : s[5]? = some (some (.ref q))) (e7 : s[7]? = some (some (.int sd))) (e8 : s[8]? = some (some (.ref (4 + A.length)))) (hl : s.length = 11)
    (a : ∀ Z, LstAt (A ++ Z) q (ws.map Way.d)) (h : Dk B (A ++ .lst [] :: Y) M) :
    Ok (evS C (.for_ (.nm 9) (.rng1 (.var 4)) (.cons (.expr (.app (.var 8) (.call o (.cons (.var 0) (.cons (.comp (.var 10) (.nm 10) (.rng1 (.len (.var 5))) (.some (.cmp .eq (.ix (.ix (.var 5) (.var 10)) (.var 7)) (.var 9))) [10]) .nil))))) .nil)) s M)
      fun f M1 => ∃ x rs Z, f = .nx (s.set 9 x) ∧ RowsOk ws sd nn rs ∧ Dk (B + nn * 1000) (A ++ .lst (rs.map rowD) :: Z) M1 := by
  refine Ok.for (rng1_okE ?_)
  simp only [evE, e4]
  refine .ret ⟨nn, rfl, hn, ?_⟩
  refine forL_ok (fun i s1 M1 => ∃ (x : Option D) (rs : List (List Nat)) (Z : Mem), s1 = s.set 9 x ∧ rs.length = i ∧ (∀ (hh : Nat) (r : List Nat), rs[hh]? = some r → r.Perm (want ws sd hh)) ∧ Dk (B + i * 1000) (A ++ .lst (rs.map rowD) :: Z) M1) ?_ ?_ ⟨s[9]'(by omega), [], Y, by simp, rfl, fun hh r z => by simp at z, by simpa using h⟩
  · rintro i d s1 M1 hd ⟨x, rs, Z, rfl, hlen, hp, h1⟩
    obtain ⟨rfl, hi⟩ := rng_at hd
    have h1i : i * 1000 ≤ nn * 1000 := Nat.mul_le_mul_right _ (by omega)
    simp only [asgT, List.set_set]
    have f : ∀ k, k ≠ 9 → (s.set 9 (some (D.int (i : Nat))))[k]? = s[k]? := fun k hk => List.getElem?_set_ne (Ne.symm hk)
    have f9 : (s.set 9 (some (D.int (i : Nat))))[9]? = some (some (.int (i : Nat))) := List.getElem?_set_self (by omega)
    refine Ok.cons (Ok.ex (Ok.app ?_))
    simp only [evE, f 8 (by decide), e8]
    refine .ret ⟨by simp only [recL, h1.mid], Ok.call ?_⟩
    simp only [evEs]
    have c := rows_comp (C := C) (ws := ws) (q := q) (sd := sd) (hh := i) (s := s.set 9 (some (D.int (i : Nat)))) hsd (by rw [f 5 (by decide)]; exact e5) (by rw [f 7 (by decide)]; exact e7) f9 (by rw [List.length_set]; omega) (a _) hz h1
    have v0 : evE C (.var 0) (s.set 9 (some (D.int (i : Nat)))) M1 = .ok (.v (.ref 3)) M1 := by simp only [evE, f 0 (by decide), e0]
    rw [v0]
    simp only [rbind_ok, Res.put, put]
    rw [c]
    simp only [rbind_ok]
    refine .ret ?_
    have h2 := h1.push (.lst ((want ws sd i).map fun k => .int (k : Nat)))
    have wl := want_len ws sd i
    refine (ho (q := M1.length) (ns := (want ws sd i).map fun k : Nat => (k : Int)) (by rw [List.length_map]; omega) (by rw [List.length_map]; omega) h2 (by rw [List.map_map]; exact LstAt.lastN h1.len)).mono fun w M2 ⟨r, e, pr, h3⟩ => ?_
    subst e
    obtain ⟨t, rfl, pt⟩ := perm_nat pr
    rw [List.length_map] at h3
    have h4 : Dk (B + (i + 1) * 1000) (A ++ .lst (rs.map rowD) :: (Z ++ [.lst ((want ws sd i).map fun k => .int (k : Nat))])) M2 := by
      rw [← List.cons_append, ← List.append_assoc]
      exact h3.mono (by omega)
    have ed : D.tup ((t.map fun k : Nat => (k : Int)).map .int) = rowD t := by rw [rowD, List.map_map]; rfl
    refine ⟨_, _, rfl, h4.mid, by rw [List.length_map]; omega, Ok.nil ?_⟩
    refine ⟨srcNil _, some (.int (i : Nat)), rs ++ [t], Z ++ [.lst ((want ws sd i).map fun k => .int (k : Nat))], rfl, by rw [List.length_append, hlen]; rfl, fun hh r z => ?_, ?_⟩
    · by_cases c : hh < rs.length
      · rw [List.getElem?_append_left c] at z; exact hp hh r z
      · have : hh = rs.length := by
          have := (List.getElem?_eq_some_iff.mp z).1
          rw [List.length_append, List.length_singleton] at this
          omega
        subst this
        rw [List.getElem?_append_right (Nat.le_refl _), Nat.sub_self] at z
        cases z
        rw [hlen]; exact pt
    · have z := h4.setMid (.lst ((rs ++ [t]).map rowD))
      simp only [put, ed, List.map_append, List.map_cons, List.map_nil] at z ⊢
      exact z
  · rintro s1 M1 ⟨x, rs, Z, rfl, hlen, hp, h1⟩
    rw [rng_len] at hlen h1
    exact ⟨x, rs, Z, rfl, ⟨hlen, hp⟩, h1⟩
def ordersAfter : Ss := (.cons (.ret (.tup (.cons (.bi .tuple (.val (.var 5))) (.cons (.ix (.var 6) (.num 0)) (.cons (.ix (.var 6) (.num 1)) .nil)))))
  .nil)
theorem web_ok (hn : Nx C n) (ho : Od C o) (hr : RdS C r) (far : Bool) {hs rs : Nat} (p1 : 0 < hs) (p2 : hs ≤ 100) (p3 : 0 < rs) (p4 : rs ≤ 100) (hB : B + 2000000 < 2 ^ 60) (h : Dk B X M) :
    Ok (runB C ⟨4, 11, webB n o r⟩ [.ref 3, .int hs, .int rs, .bl far] M) fun w M' => ∃ y : Web, w = .v y.d ∧ y.Ok hs rs ∧ (far = false → ∀ z ∈ y.ws, z.r ≤ 5) ∧ Dk (B + 1000000) X M' := by
  refine runB_ok rfl ?_
  show Ok (evSs C (webB n o r) [some (.ref 3), some (.int hs), some (.int rs), some (.bl far), none, none, none, none, none, none, none] M) _
  -- the houses
  refine Ok.cons (Ok.asg ?_)
  simp [evS, evE, evEs, evI, evO, evT, rbind_ok, ropt_some, Res.put, put, asgW, asgT, asgTs, ixW, asQ, asT, asL, asM, cmpW, opW, toB, toI, lenW, recL, recQ, isTy, eqW, scalEq]
  try simp only [rbind_assoc]
  refine (hn (by omega) (by omega) (by omega) h).bind fun w M1 ⟨v, e, v0, v1, h1⟩ => ?_
  subst e
  obtain ⟨v, rfl⟩ : ∃ k : Nat, v = k := ⟨v.toNat, by omega⟩
  simp [evS, evE, evEs, evI, evO, evT, rbind_ok, ropt_some, Res.put, put, asgW, asgT, asgTs, ixW, asQ, asT, asL, asM, cmpW, opW, toB, toI, lenW, recL, recQ, isTy, eqW, scalEq]
  refine .ret ?_
  have en : (1 : Int) + (v : Nat) = ((1 + v : Nat) : Int) := by omega
  rw [en]
  generalize hnn : 1 + v = nn
  have nn1 : 1 ≤ nn := by omega
  have nn2 : nn ≤ hs := by omega
  -- the roads
  refine Ok.cons (Ok.asg (Ok.comp (rng1_okE ?_)))
  simp [evS, evE, evEs, evI, evO, evT, rbind_ok, ropt_some, Res.put, put, asgW, asgT, asgTs, ixW, asQ, asT, asL, asM, cmpW, opW, toB, toI, lenW, recL, recQ, isTy, eqW, scalEq]
  try simp only [rbind_assoc]
  refine (hn (by omega) (by omega) (by omega) h1).bind fun w M2 ⟨u, e, u0, u1, h2⟩ => ?_
  subst e
  obtain ⟨u, rfl⟩ : ∃ k : Nat, u = k := ⟨u.toNat, by omega⟩
  simp [evS, evE, evEs, evI, evO, evT, rbind_ok, ropt_some, Res.put, put, asgW, asgT, asgTs, ixW, asQ, asT, asL, asM, cmpW, opW, toB, toI, lenW, recL, recQ, isTy, eqW, scalEq]
  refine .ret ⟨1 + u, by rw [show ((1 + u : Nat) : Int) = 1 + (u : Int) by omega], by omega, ?_⟩
  generalize hmm : 1 + u = mm
  have mm1 : 1 ≤ mm := by omega
  have mm2 : mm ≤ rs := by omega
  refine (compL_ok (fun i acc M3 => ∃ ws : List Way, acc = ws.map Way.d ∧ ws.length = i ∧ (∀ y ∈ ws, y.Ok nn) ∧ (far = false → ∀ y ∈ ws, y.r ≤ 5) ∧ Dk (B + 2 + i * 6) X M3) (P := fun acc M3 => ∃ ws : List Way, acc = ws.map Way.d ∧ ws.length = mm ∧ (∀ y ∈ ws, y.Ok nn) ∧ (far = false → ∀ y ∈ ws, y.r ≤ 5) ∧ Dk (B + 2 + mm * 6) X M3) ?_ ?_ ⟨[], rfl, rfl, (fun y hy => by cases hy), (fun _ y hy => by cases hy), by simpa using h2⟩).mono ?_
  · rintro i d acc M3 hd ⟨ws, rfl, hlen, hok, hfar, h3⟩
    obtain ⟨rfl, hi⟩ := rng_at hd
    have hi6 : i * 6 ≤ mm * 6 := Nat.mul_le_mul_right _ (by omega)
    simp [asgT, wipeE, evT, evE, evEs, put, Res.put]
    try simp only [rbind_assoc]
    refine (hr far (by omega) (by omega) (by omega) h3).bind fun w M4 ⟨y, e, yo, yf, h4⟩ => ?_
    subst e
    simp
    refine .ret ⟨srcNil _, ws ++ [y], by simp, by simp [hlen], ?_, ?_, ?_⟩
    · intro z hz
      rcases List.mem_append.mp hz with hz | hz
      · exact hok z hz
      · rw [List.mem_singleton.mp hz]; exact yo
    · intro hf z hz
      rcases List.mem_append.mp hz with hz | hz
      · exact hfar hf z hz
      · rw [List.mem_singleton.mp hz]; exact yf hf
    · exact h4.mono (by omega)
  · rintro acc M3 ⟨ws, h3⟩
    rw [rng_len] at h3
    exact ⟨ws, h3⟩
  rintro acc M3 ⟨ws, rfl, hlen, hok, hfar, h3⟩
  have hm6 : mm * 6 ≤ 100 * 6 := Nat.mul_le_mul_right _ (by omega)
  have h4 := (h3.mono (show B + 2 + mm * 6 ≤ B + 1000 by omega)).push (.lst (ws.map Way.d))
  -- the orders
  refine Ok.cons (Ok.asg ?_)
  simp [evS, evE, evEs, evI, evO, evT, rbind_ok, ropt_some, Res.put, put, asgW, asgT, asgTs, ixW, asQ, asT, asL, asM, cmpW, opW, toB, toI, lenW, recL, recQ, isTy, eqW, scalEq, h3.len]
  refine .ret ?_
  have h5 := h4.push (.lst [])
  rw [List.append_assoc] at h5
  have hnn2 : nn * 1000 ≤ 100 * 1000 := Nat.mul_le_mul_right _ (by omega)
  refine Ok.cons (Ok.for ?_)
  simp [evS, evE, evEs, evI, evO, evT, rbind_ok, ropt_some, Res.put, put, asgW, asgT, asgTs, ixW, asQ, asT, asL, asM, cmpW, opW, toB, toI, lenW, recL, recQ, isTy, eqW, scalEq, srcs]
  refine .ret ?_
  simp only
  generalize hF : O.lst (ws.map Way.d) = F at h4 h5
  have hfr : ∀ (os : List (List (List Nat))) (Z : Mem), (X ++ F :: O.lst (os.map fun rr => .tup (rr.map rowD)) :: Z) = (X ++ [F]) ++ O.lst (os.map fun rr => .tup (rr.map rowD)) :: Z := fun os Z => by simp
  have hl3 : M3.length + 1 = 4 + (X ++ [F]).length := by rw [h3.len, List.length_append]; rfl
  rw [hl3]
  refine forL_ok (fun i s M1 => ∃ (x7 x8 x9 : Option D) (os : List (List (List Nat))) (Z : Mem), s = [some (.ref 3), some (.int (hs : Nat)), some (.int (rs : Nat)), some (.bl far), some (.int (nn : Nat)), some (.ref (4 + X.length)), some (.ref (4 + (X ++ [F]).length)), x7, x8, x9, none] ∧ os.length = i ∧
    (∀ (sd : Nat) (rr : List (List Nat)), os[sd]? = some rr → RowsOk ws sd nn rr) ∧ Dk (B + 1000 + i * 200000) (X ++ F :: O.lst (os.map fun rr => .tup (rr.map rowD)) :: Z) M1) ?_ ?_ ⟨none, none, none, [], [], rfl, rfl, fun sd rr z => by simp at z, by simpa using h5⟩
  · rintro i d s M4 hd ⟨x7, x8, x9, os, Z, rfl, hol, hop, h6⟩
    have hi : i < 2 := (List.getElem?_eq_some_iff.mp hd).1
    have hd : d = .int (i : Nat) := by
      have : i = 0 ∨ i = 1 := by omega
      rcases this with rfl | rfl <;> (cases hd; rfl)
    subst hd
    simp only [asgT, List.set]
    refine Ok.cons (Ok.asg ?_)
    simp only [evE, evEs, rbind_ok]
    refine .ret ?_
    simp only [put, List.set]
    have h7 := h6.push (.lst [])
    rw [h6.len]
    generalize hA : X ++ F :: O.lst (os.map fun rr => .tup (rr.map rowD)) :: Z = A at h6 h7
    have ha : ∀ Z', LstAt (A ++ Z') (4 + X.length) (ws.map Way.d) := fun Z' => by rw [← hA, ← hF]; exact (LstAt.mid rfl).app
    refine Ok.cons ((side_ok (sd := i) (q := 4 + X.length) ho hi (by omega) (by omega) (by omega) rfl rfl rfl rfl rfl rfl ha h7).mono ?_)
    rintro f M5 ⟨x, rr, Z', rfl, hrr, h8⟩
    simp only [List.set]
    have h9 : Dk (B + 1000 + (i + 1) * 200000) ((X ++ [F]) ++ O.lst (os.map fun rr => .tup (rr.map rowD)) :: (Z ++ .lst (rr.map rowD) :: Z')) M5 := by
      have z := h8.mono (show B + 1000 + i * 200000 + nn * 1000 ≤ B + 1000 + (i + 1) * 200000 by omega)
      rw [← hA] at z
      simpa using z
    refine Ok.cons (Ok.ex (Ok.app ?_))
    simp only [evE, List.getElem?_cons_succ, List.getElem?_cons_zero]
    refine .ret ⟨by simp only [recL, h9.mid], ?_⟩
    have e8 : M5[4 + A.length]? = some (.lst (rr.map rowD)) := h8.mid
    simp only [rbind_ok, biV2, biT2, biV, biW, asQ, asT, asL, e8, true_or, if_true, Option.bind_some, ropt_some]
    refine .ret ⟨_, _, rfl, h9.mid, by rw [List.length_map]; omega, Ok.nil ?_⟩
    refine ⟨srcNil _, some (.int (i : Nat)), some (.ref (4 + A.length)), x, os ++ [rr], Z ++ .lst (rr.map rowD) :: Z', rfl, by rw [List.length_append, hol]; rfl, fun sd r z => ?_, ?_⟩
    · by_cases c : sd < os.length
      · rw [List.getElem?_append_left c] at z; exact hop sd r z
      · have e : sd = os.length := by
          have := (List.getElem?_eq_some_iff.mp z).1
          rw [List.length_append, List.length_singleton] at this
          omega
        subst e
        rw [List.getElem?_append_right (Nat.le_refl _), Nat.sub_self] at z
        cases z
        rw [hol]; exact hrr
    · have z := h9.setMid (.lst ((os ++ [rr]).map fun rr => .tup (rr.map rowD)))
      rw [hfr]
      simp only [put, List.map_append, List.map_cons, List.map_nil] at z ⊢
      exact z
  · rintro s M4 ⟨x7, x8, x9, os, Z, rfl, hol, hop, h6⟩
    obtain ⟨a, b, rfl⟩ : ∃ a b, os = [a, b] := by
      cases os with
      | nil => cases hol
      | cons a t =>
        cases t with
        | nil => cases hol
        | cons b t =>
          cases t with
          | nil => exact ⟨a, b, rfl⟩
          | cons _ _ => simp at hol
    refine Ok.cons (Ok.rtn ?_)
    have e5 : M4[4 + X.length]? = some (.lst (ws.map Way.d)) := by rw [hF]; exact h6.mid
    have e6 : M4[4 + (X ++ [F]).length]? = some (.lst [.tup (a.map rowD), .tup (b.map rowD)]) := by
      rw [hfr] at h6
      exact h6.mid
    have i0 : L2.atI [D.tup (a.map rowD), D.tup (b.map rowD)] 0 = some (.tup (a.map rowD)) := rfl
    have i1 : L2.atI [D.tup (a.map rowD), D.tup (b.map rowD)] 1 = some (.tup (b.map rowD)) := rfl
    simp only [evE, evEs, List.getElem?_cons_succ, List.getElem?_cons_zero, rbind_ok, biV2, biT2, biV, biW, asQ, asT, asL, e5, e6, true_or, if_true, Option.bind_some, ropt_some, Res.put, put, ixW, i0, i1, Option.map_some]
    refine .ret ?_
    exact h.leave h6 (Web.pure ⟨nn, ws, a, b⟩) fun M' q => ⟨⟨nn, ws, a, b⟩, rfl, ⟨nn1, nn2, by show 1 ≤ ws.length; omega, by show ws.length ≤ rs; omega, hok, hop 0 a rfl, hop 1 b rfl⟩, hfar, q.mono (by have : ([D.int 0, D.int 1] : List D).length = 2 := rfl; omega)⟩
end
end Ev

/-! EvH7: the deck is laid; the same thing. -/
namespace Ev
open PySem
def sameB (m : Nat) : Ss := (.cons (.ife (.isi (.var 1) .tuple)
  (.cons (.ife (.or (.not (.isi (.var 0) .tuple)) (.cmp .ne (.len (.var 0)) (.len (.var 1))))
  (.cons (.ret (.bl false))
  .nil)
  .nil)
  (.cons (.ret (.bi .all (.val (.comp (.call m (.cons (.ix (.var 0) (.var 2)) (.cons (.ix (.var 1) (.var 2)) .nil))) (.nm 2) (.rng1 (.len (.var 1))) .none [2]))))
  .nil))
  .nil)
  (.cons (.ife (.cmp .is (.var 1) .non)
  (.cons (.ret (.cmp .is (.var 0) .non))
  .nil)
  .nil)
  (.cons (.ife (.or (.isi (.var 1) .bool) (.isi (.var 0) .bool))
  (.cons (.ret (.and (.isi (.var 1) .bool) (.and (.isi (.var 0) .bool) (.cmp .eq (.var 0) (.var 1)))))
  .nil)
  .nil)
  (.cons (.ife (.isi (.var 1) .str)
  (.cons (.ret (.and (.isi (.var 0) .str) (.cmp .eq (.var 0) (.var 1))))
  .nil)
  .nil)
  (.cons (.ret (.and (.isi (.var 0) .int) (.cmp .eq (.var 0) (.var 1))))
  .nil)))))
section
variable {C : Cl}
theorem filtI (f : Int → Int) (p : Int → Bool) (g : D → Option D) (L : List Int) (h : ∀ k ∈ L, g (.int k) = if p k = true then some (.int (f k)) else none) : (L.map D.int).filterMap g = ((L.filter p).map f).map .int := by
  rw [filt D.int (fun k => D.int (f k)) p g L h, List.map_map]
  rfl
/-- the deck of a script -/
theorem deck_ok {ns : List Int} (hn : ns.length ≤ 63) : ∃ (g rs ps : List Int), DkOk rs ps 0 ∧ runB C ⟨1, 3, deckB⟩ [.scr ns] [] = .ok (.fl [.ref 1, .ref 2, .int 0]) [.lst (g.map .int), .lst (rs.map .int), .lst (ps.map .int)] := by
  let cs := ns.map fun i => if i < 0 then -i else i
  have c0 : ∀ x ∈ cs, 0 ≤ x := by
    intro x hx
    obtain ⟨y, _, rfl⟩ := List.mem_map.mp hx
    split <;> omega
  have cl : cs.length = ns.length := List.length_map ..
  refine ⟨cs, cs.filter fun x => decide (10 ^ 18 ≤ x), cs ++ [(cs.length : Int) + 5], ⟨fun x hx => c0 x (List.mem_filter.mp hx).1, fun x hx => ?_, by simp, by omega, ?_⟩, ?_⟩
  · rcases List.mem_append.mp hx with hx | hx
    · exact c0 x hx
    · rw [List.mem_singleton.mp hx]; omega
  · exact Nat.le_trans (List.length_filter_le _ _) (by omega)
  · have e1 : evE C (.comp (.abs (.var 2)) (.nm 2) (.val (.var 0)) .none [2]) [some (.scr ns), none, none] [] = .ok (.fl (cs.map .int)) [] := by
      simp only [evE, evI, List.getElem?_cons_zero, rbind_ok, asQ, asT, asL, Option.map_some, ropt_some, srcs]
      rw [compL_pure (fun d => match d with | .int i => some (.int (if i < 0 then -i else i)) | _ => none) (srcNil []) ?_, rbind_ok]
      · have z := filtI (fun i => if i < 0 then -i else i) (fun _ => true) (fun d => match d with | .int i => some (.int (if i < 0 then -i else i)) | _ => none) ns (fun k _ => rfl)
        rw [z, List.filter_eq_self.mpr fun _ _ => rfl]
      · intro d hd
        obtain ⟨i, _, rfl⟩ := List.mem_map.mp hd
        rfl
    have e2 : ∀ M : Mem, M[0]? = some (.lst (cs.map .int)) → evE C (.comp (.var 2) (.nm 2) (.val (.var 1)) (.some (.cmp .ge (.var 2) (.bop .pow (.num 10) (.num 18)))) [2]) [some (.scr ns), some (.ref 0), none] M = .ok (.fl ((cs.filter fun x => decide (10 ^ 18 ≤ x)).map .int)) M := by
      intro M hM
      simp only [evE, evI, List.getElem?_cons_zero, List.getElem?_cons_succ, rbind_ok, asQ, asT, asL, hM, Option.map_some, ropt_some, srcs]
      rw [compL_pure (fun d => match d with | .int i => if decide (10 ^ 18 ≤ i) = true then some (.int i) else none | _ => none) ?_ ?_, rbind_ok]
      · have z := filtI id (fun x => decide (10 ^ 18 ≤ x)) (fun d => match d with | .int i => if decide (10 ^ 18 ≤ i) = true then some (.int i) else none | _ => none) cs (fun k _ => rfl)
        rw [z, List.map_id]
      · intro p hp
        rw [List.mem_singleton.mp hp]; exact hM
      · intro d hd
        obtain ⟨i, _, rfl⟩ := List.mem_map.mp hd
        simp [asgT, wipeE, evT, evE, opW, CPowE, cmpW, toB, Res.put, put]
        by_cases c : 1000000000000000000 ≤ i <;> simp [c]
    have ev : evSs C deckB [some (.scr ns), none, none] [] = .ok (.rt (.fl [.ref 1, .ref 2, .int 0])) [.lst (cs.map .int), .lst ((cs.filter fun x => decide (10 ^ 18 ≤ x)).map .int), .lst ((cs ++ [(cs.length : Int) + 5]).map .int)] := by
      unfold deckB
      rw [evSs, evS, e1]
      simp only [rbind_ok, asgW, asgT, put, Option.map_some, List.set, List.nil_append, List.length_nil]
      rw [evSs, evS, evE, evEs, e2 _ rfl]
      have hz : cs.length + 1 ≤ 16777216 := by omega
      simp [evS, evE, evEs, evI, evO, evT, rbind_ok, ropt_some, Res.put, put, asgW, asgT, asgTs, ixW, asQ, asT, asL, asM, cmpW, opW, toB, toI, lenW, recL, recQ, isTy, eqW, scalEq, hz]
    rw [runB_rt rfl ev]
    unfold leave
    split
    · rw [if_neg (by simp [W.bel, D.bels, D.bel])]
    · rfl
end
end Ev

/-! EvH8: a thing is the same as itself. -/
namespace Ev
open PySem
/-- data of some depth -/
inductive Sm : Nat → D → Prop
  | non (n : Nat) : Sm n .non
  | int (n : Nat) (i : Int) : Sm n (.int i)
  | bl (n : Nat) (i : Bool) : Sm n (.bl i)
  | str (n : Nat) (i : Str) : Sm n (.str i)
  | tup (n : Nat) (l : List D) : (∀ x ∈ l, Sm n x) → l.length ≤ 1000 → Sm (n + 1) (.tup l)
theorem bls_true : ∀ {l : List D}, (∀ d ∈ l, d = .bl true) → (blsOf l).map (fun r => r.all id) = some true
  | [], _ => rfl
  | d :: r, h => by
    have e := h d (List.mem_cons_self ..)
    subst e
    have ih := bls_true fun x hx => h x (List.mem_cons_of_mem _ hx)
    obtain ⟨t, e1, e2⟩ := Option.map_eq_some_iff.mp ih
    simp [blsOf, e1]
    simpa using e2
theorem same_comp {C : Cl} {m : Nat} {M : Mem} {l : List D} (hz : l.length ≤ 1000) (sub : ∀ x ∈ l, C.call m [x, x] M = .ok (.v (.bl true)) M) :
    evE C (.comp (.call m (.cons (.ix (.var 0) (.var 2)) (.cons (.ix (.var 1) (.var 2)) .nil))) (.nm 2) (.rng1 (.len (.var 1))) .none [2]) [some (.tup l), some (.tup l), none] M = .ok (.fl ((List.range l.length).map fun _ => .bl true)) M := by
  have hl : evE C (.len (.var 1)) [some (.tup l), some (.tup l), none] M = .ok (.v (.int (l.length : Nat))) M := by simp [evE, lenW, asQ, asT]
  rw [evE, rng1_ok hl (rngOk_small hz), rbind_ok, rng_nat]
  simp only
  rw [compL_pure (fun _ => some (.bl true)) (srcNil M) ?_, rbind_ok]
  · rw [List.filterMap_map]
    congr 2
    induction List.range l.length with
    | nil => rfl
    | cons a r ih => rw [List.filterMap_cons, ih]; rfl
  · intro d hd
    obtain ⟨k, hk, rfl⟩ := List.mem_map.mp hd
    have hk : k < l.length := List.mem_range.mp hk
    have hat : L2.atI l (k : Int) = some l[k] := ixI' (List.getElem?_eq_getElem hk)
    simp [asgT, wipeE, evT, evE, evEs, ixW, asQ, asT, hat, Res.put, put, sub l[k] (List.getElem_mem hk)]
theorem same_tup {C : Cl} {m : Nat} {M : Mem} {l : List D} (hz : l.length ≤ 1000) (sub : ∀ x ∈ l, C.call m [x, x] M = .ok (.v (.bl true)) M) : evSs C (sameB m) [some (.tup l), some (.tup l), none] M = .ok (.rt (.v (.bl true))) M := by
  have hc := same_comp hz sub
  have e1 : evE C (.isi (.var 1) .tuple) [some (.tup l), some (.tup l), none] M = .ok (.v (.bl true)) M := by simp [evE, isTy]
  have e2 : evE C (.or (.not (.isi (.var 0) .tuple)) (.cmp .ne (.len (.var 0)) (.len (.var 1)))) [some (.tup l), some (.tup l), none] M = .ok (.v (.bl false)) M := by
    simp [evE, isTy, lenW, asQ, asT, cmpW, eqW, scalEq, toB]
  have e3 : evE C (.bi .all (.val (.comp (.call m (.cons (.ix (.var 0) (.var 2)) (.cons (.ix (.var 1) (.var 2)) .nil))) (.nm 2) (.rng1 (.len (.var 1))) .none [2]))) [some (.tup l), some (.tup l), none] M = .ok (.v (.bl true)) M := by
    rw [evE, hc, rbind_ok]
    have z := bls_true (l := (List.range l.length).map fun _ => D.bl true) (fun d hd => by obtain ⟨_, _, rfl⟩ := List.mem_map.mp hd; rfl)
    obtain ⟨t, e3, e4⟩ := Option.map_eq_some_iff.mp z
    have b : biV2 .all M (.fl ((List.range l.length).map fun _ => D.bl true)) = some (.v (.bl true)) := by
      unfold biV2
      rw [if_pos (show biT2 Bi.all = true ∨ asT (W.fl ((List.range l.length).map fun _ => D.bl true)) = none from Or.inr rfl)]
      show (blsOf _).map _ = _
      rw [e3]
      simp only [Option.map_some, e4]
    rw [b, ropt_some]
  exact cons_rt ((ife_t e1).trans ((cons_nx ((ife_f e2).trans nil_nx)).trans (cons_rt (ret_eq e3))))
theorem same_step {C : Cl} {m : Nat} {M : Mem} {d : D} {n : Nat} (h : Sm n d) (sub : ∀ n' l, n = n' + 1 → d = .tup l → ∀ x ∈ l, C.call m [x, x] M = .ok (.v (.bl true)) M) : runB C ⟨2, 3, sameB m⟩ [d, d] M = .ok (.v (.bl true)) M := by
  have fin : evSs C (sameB m) [some d, some d, none] M = .ok (.rt (.v (.bl true))) M → runB C ⟨2, 3, sameB m⟩ [d, d] M = .ok (.v (.bl true)) M := fun e => runB_pure rfl e rfl
  apply fin
  cases h with
  | non => simp [sameB, evSs, evS, evE, isTy, cmpW, toB]
  | int _ i => simp [sameB, evSs, evS, evE, isTy, cmpW, toB, eqW, scalEq]
  | bl _ i => simp [sameB, evSs, evS, evE, isTy, cmpW, toB, eqW, scalEq]
  | str _ i => simp [sameB, evSs, evS, evE, isTy, cmpW, toB, eqW, scalEq]
  | tup n' l hl hz => exact same_tup hz (sub n' l rfl rfl)
theorem same_ok {defs : List FD} {glb : Nat → D} {fuel m : Nat} (hm : defs[m]? = some ⟨2, 3, sameB m⟩) {M : Mem} : ∀ (n k : Nat) (d : D), n < k → Sm n d → callF defs glb fuel k m [d, d] M = .ok (.v (.bl true)) M := by
  intro n
  induction n with
  | zero =>
    intro k d hk h
    obtain ⟨k, rfl⟩ : ∃ j, k = j + 1 := ⟨k - 1, by omega⟩
    rw [callF_succ hm]
    exact same_step h fun n' l e => by omega
  | succ n ih =>
    intro k d hk h
    obtain ⟨k, rfl⟩ : ∃ j, k = j + 1 := ⟨k - 1, by omega⟩
    rw [callF_succ hm]
    refine same_step h fun n' l e ed x hx => ?_
    subst ed
    cases h with
    | tup _ _ hl _ => exact ih k x (by omega) (hl x hx)
end Ev

/-! EvH9: small laws of rows. -/
namespace Ev
open PySem
def intsD (l : List Nat) : List D := l.map fun k => .int (k : Nat)
theorem intsD_pure (l : List Nat) : (D.tup (intsD l)).pure = true := rowD_pure l
theorem enum_nat' : ∀ (j : Nat) (l : List D), enumD j l = (List.range l.length).map fun k => .tup [.int ((j + k : Nat) : Int), (l[k]?).getD .non]
  | _, [] => rfl
  | j, d :: r => by
    rw [enumD, enum_nat' (j + 1) r, List.length_cons, List.range_succ_eq_map, List.map_cons, List.map_map]
    congr 1
    apply List.map_congr_left
    intro k _
    show D.tup [.int ((j + 1 + k : Nat) : Int), (r[k]?).getD .non] = D.tup [.int ((j + (k + 1) : Nat) : Int), ((d :: r)[k + 1]?).getD .non]
    rw [List.getElem?_cons_succ, show j + 1 + k = j + (k + 1) by omega]
theorem enum_nat (l : List D) : enumD 0 l = (List.range l.length).map fun k => .tup [.int ((k : Nat) : Int), (l[k]?).getD .non] := by
  rw [enum_nat']
  simp only [Nat.zero_add]
/-- roads with no house on that side -/
def door (ws : List Way) (sd : Nat) : List Nat := (List.range ws.length).filter fun k => decide ((ws[k]?.map (Way.side sd)) = some none)
theorem isEnd (M : Mem) (o : Option Nat) : cmpW .is M (.v (endD o)) (.v .non) = some (decide (o = none)) := by cases o <;> rfl
section
variable {C : Cl} {M : Mem} {w : Web} {sd : Nat}
theorem ix0 (M : Mem) (w : Web) : ixW M (.v w.d) (.v (.int 0)) = some (.v (.tup (w.ws.map Way.d))) := rfl
/-- [number for number, road in enumerate(web[0]) if road[sd] is None] -/
theorem doors_enum (hs : sd < 2) : evE C (.comp (.var 1) (.tp (.cons (.nm 1) (.cons (.nm 2) .nil))) (.enum (.ix (.var 0) (.num 0))) (.some (.cmp .is (.ix (.var 2) (.num sd)) .non)) [1, 2]) [some w.d, none, none] M = .ok (.fl (intsD (door w.ws sd))) M := by
  have hi : evI C (.enum (.ix (.var 0) (.num 0))) [some w.d, none, none] M = .ok (enumD 0 (w.ws.map Way.d), []) M := by
    simp only [evI, evE, List.getElem?_cons_zero, rbind_ok, ix0, ropt_some, asQ, asT, Option.map_some, srcs]
  rw [evE, hi, rbind_ok]
  simp only
  rw [enum_nat, compL_pure (fun d => match d with | .tup [.int x, _] => if (w.ws[x.toNat]?.map (Way.side sd)) = some none then some (.int x) else none | _ => none) (srcNil M) ?_, rbind_ok]
  · congr 2
    unfold door intsD
    rw [List.length_map]
    exact filt _ _ _ _ _ fun k hk => by simp
  · intro d hd
    obtain ⟨k, hk, rfl⟩ := List.mem_map.mp hd
    rw [List.length_map] at hk
    have hk : k < w.ws.length := List.mem_range.mp hk
    have e : (((w.ws.map Way.d)[k]?).getD .non) = w.ws[k].d := by rw [List.getElem?_map, List.getElem?_eq_getElem hk]; rfl
    have g : w.ws[((k : Nat) : Int).toNat]?.map (Way.side sd) = some (w.ws[k].side sd) := by rw [Int.toNat_natCast, List.getElem?_eq_getElem hk]; rfl
    rw [e]
    simp only [asgT, asgTs, wipeE, List.set, evT, evE, List.getElem?_cons_succ, List.getElem?_cons_zero, rbind_ok, ixWay M w.ws[k] hs, ropt_some, isEnd, Option.map_some, toB, g]
    by_cases c : w.ws[k].side sd = none
    · simp [c, Res.put, put]
    · simp [c]
theorem doors_in (hs : sd < 2) : runB C ⟨1, 3, (.cons (.ret (.bi .tuple (.val (.comp (.var 1) (.tp (.cons (.nm 1) (.cons (.nm 2) .nil))) (.enum (.ix (.var 0) (.num 0))) (.some (.cmp .is (.ix (.var 2) (.num sd)) .non)) [1, 2])))) .nil)⟩ [w.d] M = .ok (.v (.tup (intsD (door w.ws sd)))) M := by
  refine runB_pure rfl ?_ (intsD_pure _)
  refine cons_rt (ret_eq ?_)
  show evE C _ [some w.d, none, none] M = _
  rw [evE, doors_enum hs]
  rfl
/-- [k for k in range(len(web[0])) if web[0][k][sd] is None], the web in slot 3, the loop's name in slot 7 -/
theorem doors_rng {s : Env} (hs : sd < 2) (hz : w.ws.length ≤ 1000) (e3 : s[3]? = some (some w.d)) (hl : s.length = 8) :
    evE C (.bi .tuple (.val (.comp (.var 7) (.nm 7) (.rng1 (.len (.ix (.var 3) (.num 0)))) (.some (.cmp .is (.ix (.ix (.ix (.var 3) (.num 0)) (.var 7)) (.num sd)) .non)) [7]))) s M = .ok (.v (.tup (intsD (door w.ws sd)))) M := by
  have hlen : evE C (.len (.ix (.var 3) (.num 0))) s M = .ok (.v (.int (w.ws.length : Nat))) M := by
    simp only [evE, e3, rbind_ok, ix0, ropt_some, lenW, asQ, asT, List.length_map, Option.map_some]
  rw [evE, evE, rng1_ok hlen (rngOk_small hz), rbind_ok, rng_nat]
  simp only
  rw [compL_pure (fun d => match d with | .int x => if (w.ws[x.toNat]?.map (Way.side sd)) = some none then some (.int x) else none | _ => none) (srcNil M) ?_, rbind_ok]
  · have z : ((List.range w.ws.length).map fun k : Nat => D.int (k : Nat)).filterMap (fun d => match d with | .int x => if (w.ws[x.toNat]?.map (Way.side sd)) = some none then some (.int x) else none | _ => none) = intsD (door w.ws sd) := filt _ _ _ _ _ fun k hk => by simp
    rw [z]
    rfl
  · intro d hd
    obtain ⟨k, hk, rfl⟩ := List.mem_map.mp hd
    have hk : k < w.ws.length := List.mem_range.mp hk
    have g : w.ws[((k : Nat) : Int).toNat]?.map (Way.side sd) = some (w.ws[k].side sd) := by rw [Int.toNat_natCast, List.getElem?_eq_getElem hk]; rfl
    have hat : ixW M (.v (.tup (w.ws.map Way.d))) (.v (.int (k : Nat))) = some (.v w.ws[k].d) := by
      have z : L2.atI (w.ws.map Way.d) (k : Int) = some w.ws[k].d := ixI' (by rw [List.getElem?_map, List.getElem?_eq_getElem hk]; rfl)
      simp only [ixW, asQ, asT, z, Option.map_some]
    have hw : wipeE s [7] = s.set 7 none := rfl
    have h3 : ((s.set 7 none).set 7 (some (D.int (k : Nat))))[3]? = some (some w.d) := by rw [List.set_set, List.getElem?_set_ne (by decide)]; exact e3
    have h7 : ((s.set 7 none).set 7 (some (D.int (k : Nat))))[7]? = some (some (.int (k : Nat))) := by rw [List.set_set, List.getElem?_set_self (by omega)]
    simp only [asgT, hw, evT, evE, h3, h7, rbind_ok, ix0, ropt_some, hat, ixWay M w.ws[k] hs, isEnd, Option.map_some, toB, g]
    by_cases c : w.ws[k].side sd = none
    · simp [c, Res.put, put]
    · simp [c]
theorem filter_or {α : Type} (p q : α → Bool) : ∀ (L : List α), (∀ k ∈ L, ¬ (p k = true ∧ q k = true)) → (L.filter p ++ L.filter q).Perm (L.filter fun k => p k || q k)
  | [], _ => .nil
  | k :: r, h => by
    have ih := filter_or p q r fun x hx => h x (List.mem_cons_of_mem _ hx)
    have hk := h k (List.mem_cons_self ..)
    cases hp : p k <;> cases hq : q k
    · simpa [List.filter_cons, hp, hq] using ih
    · rw [List.filter_cons, List.filter_cons, List.filter_cons]
      simp only [hp, hq]
      simp only [Bool.false_eq_true, if_false, if_true, Bool.false_or]
      exact List.perm_middle.trans (ih.cons k)
    · rw [List.filter_cons, List.filter_cons, List.filter_cons]
      simp only [hp, hq]
      simp only [Bool.false_eq_true, if_false, if_true, Bool.true_or]
      exact ih.cons k
    · exact absurd ⟨hp, hq⟩ hk
theorem range_sorted (n : Nat) (p : Nat → Bool) : (((List.range n).filter p).map fun k : Nat => (k : Int)).Pairwise (· ≤ ·) := by
  rw [List.pairwise_map]
  refine (List.Pairwise.filter _ List.pairwise_lt_range).imp fun h => ?_
  omega
theorem intsOf_nat : ∀ (l : List Nat), intsOf (intsD l) = some (l.map fun k : Nat => (k : Int))
  | [] => rfl
  | k :: r => by
    have ih := intsOf_nat r
    unfold intsD at ih ⊢
    rw [List.map_cons, intsOf, ih]
    rfl
end
end Ev

/-! EvX: rows gone through, roads by their numbers; short words for what is evaluated often. -/
namespace Ev
open PySem
theorem put_v {d : D} {M : Mem} : (Res.ok (W.v d) M).put = .ok d M := rfl
/-! ### derivations -/
section
variable {C : Cl} {s : Env} {M M1 M2 M3 : Mem}
theorem xV {i : Nat} {d : D} (h : s[i]? = some (some d)) : evE C (.var i) s M = .ok (.v d) M := by rw [evE, h]
theorem xN {i : Int} : evE C (.num i) s M = .ok (.v (.int i)) M := by rw [evE]
theorem xS {i : Str} : evE C (.str i) s M = .ok (.v (.str i)) M := by rw [evE]
theorem xB {i : Bool} : evE C (.bl i) s M = .ok (.v (.bl i)) M := by rw [evE]
theorem xO : evE C .non s M = .ok (.v .non) M := by rw [evE]
theorem xG {i : Nat} {d : D} (h : C.glb i = d) : evE C (.glb i) s M = .ok (.v d) M := by rw [evE, h]
theorem xIx {a i : E} {x y w : W} (h1 : evE C a s M = .ok x M1) (h2 : evE C i s M1 = .ok y M2) (h : ixW M2 x y = some w) : evE C (.ix a i) s M = .ok w M2 := by rw [evE, h1, rbind_ok, h2, rbind_ok, h]; rfl
theorem xOp {o : Bop} {a b : E} {x y w : W} (h1 : evE C a s M = .ok x M1) (h2 : evE C b s M1 = .ok y M2) (h : opW o M2 x y = some w) : evE C (.bop o a b) s M = .ok w M2 := by rw [evE, h1, rbind_ok, h2, rbind_ok, h]; rfl
theorem xCm {o : Cop} {a b : E} {x y : W} {r : Bool} (h1 : evE C a s M = .ok x M1) (h2 : evE C b s M1 = .ok y M2) (h : cmpW o M2 x y = some r) : evE C (.cmp o a b) s M = .ok (.v (.bl r)) M2 := by rw [evE, h1, rbind_ok, h2, rbind_ok, h]; rfl
theorem xLn {a : E} {x : W} {i : Int} (h1 : evE C a s M = .ok x M1) (h : lenW M1 x = some i) : evE C (.len a) s M = .ok (.v (.int i)) M1 := by rw [evE, h1, rbind_ok, h]; rfl
theorem xNt {a : E} {r : Bool} (h1 : evE C a s M = .ok (.v (.bl r)) M1) : evE C (.not a) s M = .ok (.v (.bl (!r))) M1 := by rw [evE, h1]; rfl
theorem xNT {a : E} (h1 : evE C a s M = .ok (.v (.bl false)) M1) : evE C (.not a) s M = .ok (.v (.bl true)) M1 := xNt h1
theorem xNF {a : E} (h1 : evE C a s M = .ok (.v (.bl true)) M1) : evE C (.not a) s M = .ok (.v (.bl false)) M1 := xNt h1
theorem xAF {a b : E} (h1 : evE C a s M = .ok (.v (.bl false)) M1) : evE C (.and a b) s M = .ok (.v (.bl false)) M1 := by rw [evE, h1]; rfl
theorem xAT {a b : E} {r : Bool} (h1 : evE C a s M = .ok (.v (.bl true)) M1) (h2 : evE C b s M1 = .ok (.v (.bl r)) M2) : evE C (.and a b) s M = .ok (.v (.bl r)) M2 := by
  rw [evE, h1]; show (evE C b s M1).bind _ = _; rw [h2]; rfl
theorem xOT {a b : E} (h1 : evE C a s M = .ok (.v (.bl true)) M1) : evE C (.or a b) s M = .ok (.v (.bl true)) M1 := by rw [evE, h1]; rfl
theorem xOF {a b : E} {r : Bool} (h1 : evE C a s M = .ok (.v (.bl false)) M1) (h2 : evE C b s M1 = .ok (.v (.bl r)) M2) : evE C (.or a b) s M = .ok (.v (.bl r)) M2 := by
  rw [evE, h1]; show (evE C b s M1).bind _ = _; rw [h2]; rfl
/-- a and b, b told where a holds -/
theorem xAnd {a b : E} {p q : Bool} (h1 : evE C a s M = .ok (.v (.bl p)) M) (h2 : p = true → evE C b s M = .ok (.v (.bl q)) M) : evE C (.and a b) s M = .ok (.v (.bl (p && q))) M := by
  cases p with
  | false => exact xAF h1
  | true => exact xAT h1 (h2 rfl)
theorem xOr {a b : E} {p q : Bool} (h1 : evE C a s M = .ok (.v (.bl p)) M) (h2 : p = false → evE C b s M = .ok (.v (.bl q)) M) : evE C (.or a b) s M = .ok (.v (.bl (p || q))) M := by
  cases p with
  | false => exact xOF h1 (h2 rfl)
  | true => exact xOT h1
theorem xIT {c a b : E} {x : W} (h1 : evE C c s M = .ok (.v (.bl true)) M1) (h2 : evE C a s M1 = .ok x M2) : evE C (.ite c a b) s M = .ok x M2 := by rw [evE, h1]; exact h2
theorem xIF {c a b : E} {x : W} (h1 : evE C c s M = .ok (.v (.bl false)) M1) (h2 : evE C b s M1 = .ok x M2) : evE C (.ite c a b) s M = .ok x M2 := by rw [evE, h1]; exact h2
theorem xZ : evEs C .nil s M = .ok [] M := by rw [evEs]
theorem xC {e : E} {r : Es} {d : D} {l : List D} (h1 : evE C e s M = .ok (.v d) M1) (h2 : evEs C r s M1 = .ok l M2) : evEs C (.cons e r) s M = .ok (d :: l) M2 := by
  rw [evEs, h1, put_v, rbind_ok, h2]; rfl
/-- a new list gets its place -/
theorem xCF {e : E} {r : Es} {k l : List D} (h1 : evE C e s M = .ok (.fl k) M1) (h2 : evEs C r s (M1 ++ [.lst k]) = .ok l M2) : evEs C (.cons e r) s M = .ok (.ref M1.length :: l) M2 := by
  rw [evEs, h1]; show (evEs C r s (M1 ++ [.lst k])).bind _ = _; rw [h2]; rfl
theorem xT {es : Es} {l : List D} (h : evEs C es s M = .ok l M1) : evE C (.tup es) s M = .ok (.v (.tup l)) M1 := by rw [evE, h]; rfl
theorem xL {es : Es} {l : List D} (h : evEs C es s M = .ok l M1) : evE C (.lst es) s M = .ok (.fl l) M1 := by rw [evE, h]; rfl
theorem xF {f : Nat} {es : Es} {l : List D} {r : Res W} (h : evEs C es s M = .ok l M1) (h2 : C.call f l M1 = r) : evE C (.call f es) s M = r := by rw [evE, h]; exact h2
theorem xSl {a : E} {lo hi : Eo} {x w : W} {p q : Option Int} (h1 : evE C a s M = .ok x M1) (h2 : evO C lo s M1 = .ok p M2) (h3 : evO C hi s M2 = .ok q M3) (h : slW M3 x p q = some w) : evE C (.sl a lo hi) s M = .ok w M3 := by
  rw [evE, h1, rbind_ok, h2, rbind_ok, h3, rbind_ok, h]; rfl
theorem xON : evO C .none s M = .ok none M := by rw [evO]
theorem xOS {e : E} {i : Int} (h : evE C e s M = .ok (.v (.int i)) M1) : evO C (.some e) s M = .ok (some i) M1 := by rw [evO, h]; rfl
theorem xTN : evT C .none s M = .ok true M := by rw [evT]
theorem xTS {e : E} {r : Bool} (h : evE C e s M = .ok (.v (.bl r)) M1) : evT C (.some e) s M = .ok r M1 := by rw [evT, h]; rfl
theorem xIn {a : E} {b : Bool} (h : evE C a s M = .ok (.v (.bl b)) M1) : evE C (.toint a) s M = .ok (.v (.int (if b then 1 else 0))) M1 := by rw [evE, h]; rfl
theorem xTy {a : E} {t : Ty} {x : W} {r : Bool} (h : evE C a s M = .ok x M1) (h2 : isTy M1 x t = some r) : evE C (.isi a t) s M = .ok (.v (.bl r)) M1 := by rw [evE, h, rbind_ok, h2]; rfl
theorem xRp {a : E} {x : W} {z : Str} (h : evE C a s M = .ok x M1) (h2 : reprW M1 x = some z) : evE C (.repr a) s M = .ok (.v (.str z)) M1 := by rw [evE, h, rbind_ok, h2]; rfl
/-! statements -/
/-- name = a thing -/
theorem yA {e : E} {i : Nat} {r : Ss} {d : D} {P : Fl → Mem → Prop} (h : evE C e s M = .ok (.v d) M1) (k : Ok (evSs C r (s.set i (some d)) M1) P) : Ok (evSs C (.cons (.asg (.nm i) e) r) s M) P := by
  rw [cons_nx (asg_eq h)]; exact k
/-- name = a new list -/
theorem yL {e : E} {i : Nat} {r : Ss} {l : List D} {P : Fl → Mem → Prop} (h : evE C e s M = .ok (.fl l) M1) (k : Ok (evSs C r (s.set i (some (.ref M1.length))) (M1 ++ [.lst l])) P) : Ok (evSs C (.cons (.asg (.nm i) e) r) s M) P := by
  rw [cons_nx (asg_eq h)]; exact k
theorem yI {c : E} {a b r : Ss} {t : Bool} {P : Fl → Mem → Prop} (h : evE C c s M = .ok (.v (.bl t)) M1) (k : Ok (evSs C (if t = true then a else b) s M1) fun f M2 => match f with
    | .nx s1 => Ok (evSs C r s1 M2) P
    | .bk s1 => P (.bk s1) M2
    | .ct s1 => P (.ct s1) M2
    | .rt w => P (.rt w) M2) : Ok (evSs C (.cons (.ife c a b) r) s M) P := by
  refine Ok.cons ?_
  cases t with
  | true => rw [ife_t h]; exact k
  | false => rw [ife_f h]; exact k
/-- if that doesn't hold, and nothing else -/
theorem yF {c : E} {a r : Ss} {P : Fl → Mem → Prop} (h : evE C c s M = .ok (.v (.bl false)) M1) (k : Ok (evSs C r s M1) P) : Ok (evSs C (.cons (.ife c a .nil) r) s M) P := by
  rw [cons_nx ((ife_f h).trans nil_nx)]; exact k
theorem yT {c : E} {a b r : Ss} {P : Fl → Mem → Prop} (h : evE C c s M = .ok (.v (.bl true)) M1) (k : Ok (evSs C a s M1) fun f M2 => match f with
    | .nx s1 => Ok (evSs C r s1 M2) P
    | .bk s1 => P (.bk s1) M2
    | .ct s1 => P (.ct s1) M2
    | .rt w => P (.rt w) M2) : Ok (evSs C (.cons (.ife c a b) r) s M) P := yI (t := true) h k
theorem yR {e : E} {r : Ss} {w : W} {P : Fl → Mem → Prop} (h : evE C e s M = .ok w M1) (k : P (.rt w) M1) : Ok (evSs C (.cons (.ret e) r) s M) P := by
  rw [cons_rt (ret_eq h)]; exact .ret k
end
/-! ### comprehensions that change nothing -/
section
variable {α : Type} {C : Cl} {el : E} {tg : Tg} {it : I} {ws : List Nat} {s : Env} {M : Mem} {l : List α} {a : α → D} {ss : List (Nat × O)}
theorem compP {c : Eo} (p : α → Bool) (f : α → D) (hi : evI C it s M = .ok (l.map a, ss) M) (hs : SrcOk ss M)
    (h : ∀ x ∈ l, ∃ s1, asgT tg (a x) (wipeE s ws) = some s1 ∧ evT C c s1 M = .ok (p x) M ∧ (p x = true → evE C el s1 M = .ok (.v (f x)) M)) :
    evE C (.comp el tg it c ws) s M = .ok (.fl ((l.filter p).map f)) M := by
  rw [evE, hi, rbind_ok]
  simp only
  have go : ∀ l : List α, (∀ x ∈ l, ∃ s1, asgT tg (a x) (wipeE s ws) = some s1 ∧ evT C c s1 M = .ok (p x) M ∧ (p x = true → evE C el s1 M = .ok (.v (f x)) M)) →
      compL (fun d M2 => match asgT tg d (wipeE s ws) with
    | none => .no
    | some s1 => (evT C c s1 M2).bind fun b M3 => match b with
      | false => .ok none M3
      | true => (evE C el s1 M3).put.bind fun x M4 => .ok (some x) M4) ss (l.map a) M = .ok ((l.filter p).map f) M := by
    intro l
    induction l with
    | nil => intro _; rw [List.map_nil, compL]; rfl
    | cons x r ih =>
      intro h
      obtain ⟨s1, e1, e2, e3⟩ := h x (List.mem_cons_self ..)
      rw [List.map_cons, compL]
      simp only [e1, e2, rbind_ok]
      cases hp : p x with
      | false =>
        simp only [rbind_ok]
        rw [if_pos hs, ih fun y hy => h y (List.mem_cons_of_mem _ hy), rbind_ok, List.filter_cons, hp]
        rfl
      | true =>
        simp only [e3 hp, put_v, rbind_ok]
        rw [if_pos hs, ih fun y hy => h y (List.mem_cons_of_mem _ hy), rbind_ok, List.filter_cons, hp]
        rfl
  exact congrArg (fun r : Res (List D) => r.bind fun l M2 => Res.ok (W.fl l) M2) (go l h)
theorem compM (f : α → D) (hi : evI C it s M = .ok (l.map a, ss) M) (hs : SrcOk ss M)
    (h : ∀ x ∈ l, ∃ s1, asgT tg (a x) (wipeE s ws) = some s1 ∧ evE C el s1 M = .ok (.v (f x)) M) :
    evE C (.comp el tg it .none ws) s M = .ok (.fl (l.map f)) M := by
  have z := compP (c := .none) (ws := ws) (el := el) (tg := tg) (fun _ => true) f hi hs fun x hx => by
    obtain ⟨s1, e1, e2⟩ := h x hx
    exact ⟨s1, e1, by rw [evT], fun _ => e2⟩
  rwa [List.filter_eq_self.mpr fun _ _ => rfl] at z
end
/-! ### what is gone through -/
section
variable {C : Cl} {e e2 : E} {s : Env} {M : Mem}
theorem src1 {q : Nat} {o : O} (h : M[q]? = some o) : SrcOk [(q, o)] M := fun p hp => by rw [List.mem_singleton.mp hp]; exact h
theorem itR {n : Nat} (hn : n ≤ 1000) (h : evE C e s M = .ok (.v (.int (n : Nat))) M) : evI C (.rng1 e) s M = .ok ((List.range n).map fun k => D.int (k : Nat), []) M := by
  rw [rng1_ok h (rngOk_small hn), rng_nat]
theorem itT {l : List D} (h : evE C e s M = .ok (.v (.tup l)) M) : evI C (.val e) s M = .ok (l, []) M := by rw [evI, h]; rfl
theorem itF {l : List D} (h : evE C e s M = .ok (.fl l) M) : evI C (.val e) s M = .ok (l, []) M := by rw [evI, h]; rfl
theorem itL {l : List D} {q : Nat} (hq : M[q]? = some (.lst l)) (h : evE C e s M = .ok (.v (.ref q)) M) : evI C (.val e) s M = .ok (l, [(q, .lst l)]) M := by
  rw [evI, h, rbind_ok]; simp only [asQ, asT, asL, srcs, hq]; rfl
theorem itE {l : List D} (h : evE C e s M = .ok (.v (.tup l)) M) : evI C (.enum e) s M = .ok ((List.range l.length).map fun k => .tup [.int (k : Nat), (l[k]?).getD .non], []) M := by
  rw [evI, h, rbind_ok, ← enum_nat]; rfl
theorem zip_nat : ∀ (l r : List D), l.length = r.length → zipD l r = (List.range l.length).map fun k => .tup [(l[k]?).getD .non, (r[k]?).getD .non]
  | [], _, _ => rfl
  | _ :: _, [], h => by cases h
  | a :: l, b :: r, h => by
    rw [zipD, zip_nat l r (by simpa using h), List.length_cons, List.range_succ_eq_map, List.map_cons, List.map_map]
    rfl
theorem itZ {l r : List D} (hl : l.length = r.length) (h : evE C e s M = .ok (.v (.tup l)) M) (h2 : evE C e2 s M = .ok (.v (.tup r)) M) : evI C (.zip2 e e2) s M = .ok ((List.range l.length).map fun k => .tup [(l[k]?).getD .non, (r[k]?).getD .non], []) M := by
  rw [evI, h, rbind_ok, h2, rbind_ok, ← zip_nat l r hl]; rfl
end
/-! ### built-ins over rows -/
section
variable {C : Cl} {e : E} {s : Env} {M : Mem}
theorem bTupF {l : List D} (h : evE C e s M = .ok (.fl l) M) : evE C (.bi .tuple (.val e)) s M = .ok (.v (.tup l)) M := by rw [evE, h]; rfl
theorem bTupL {l : List D} {q : Nat} (hq : M[q]? = some (.lst l)) (h : evE C e s M = .ok (.v (.ref q)) M) : evE C (.bi .tuple (.val e)) s M = .ok (.v (.tup l)) M := by
  rw [evE, h, rbind_ok]
  simp only [biV2, biT2, biV, asQ, asT, asL, hq, true_or, if_true, Option.bind_some, biW, ropt_some]
theorem ints_of : ∀ l : List Int, intsOf (l.map .int) = some l
  | [] => rfl
  | a :: r => by rw [List.map_cons, intsOf, ints_of r]; rfl
theorem bls_of : ∀ l : List Bool, blsOf (l.map .bl) = some l
  | [] => rfl
  | a :: r => by rw [List.map_cons, blsOf, bls_of r]; rfl
theorem biV2F {f : Bi} {l : List D} : biV2 f M (.fl l) = biW f l := by unfold biV2; rw [if_pos (.inr rfl)]; rfl
theorem bSum {l : List Int} (h : evE C e s M = .ok (.fl (l.map .int)) M) : evE C (.bi .sum (.val e)) s M = .ok (.v (.int l.sum)) M := by
  rw [evE, h, rbind_ok, biV2F, biW, ints_of]; rfl
theorem bAll {l : List Bool} (h : evE C e s M = .ok (.fl (l.map .bl)) M) : evE C (.bi .all (.val e)) s M = .ok (.v (.bl (l.all id))) M := by
  rw [evE, h, rbind_ok, biV2F, biW, bls_of]; rfl
theorem bAny {l : List Bool} (h : evE C e s M = .ok (.fl (l.map .bl)) M) : evE C (.bi .any (.val e)) s M = .ok (.v (.bl (l.any id))) M := by
  rw [evE, h, rbind_ok, biV2F, biW, bls_of]; rfl
theorem bSortF {l : List Int} (h : evE C e s M = .ok (.fl (l.map .int)) M) : evE C (.bi .sorted (.val e)) s M = .ok (.fl ((sortI l).map .int)) M := by
  rw [evE, h, rbind_ok, biV2F, biW, ints_of]; rfl
theorem bSortT {l : List Int} (h : evE C e s M = .ok (.v (.tup (l.map .int))) M) : evE C (.bi .sorted (.val e)) s M = .ok (.fl ((sortI l).map .int)) M := by
  rw [evE, h, rbind_ok]
  show Res.opt ((intsOf (l.map .int)).map _) M = _
  rw [ints_of]; rfl
theorem bMin {l : List Int} {m : Int} (hm : minI l = some m) (h : evE C e s M = .ok (.fl (l.map .int)) M) : evE C (.bi .min (.val e)) s M = .ok (.v (.int m)) M := by
  rw [evE, h, rbind_ok, biV2F, biW, ints_of, Option.bind_some, hm]; rfl
theorem minI_some {l : List Int} (h : l ≠ []) : ∃ m, minI l = some m ∧ m ∈ l ∧ ∀ y ∈ l, m ≤ y := by
  cases l with
  | nil => exact absurd rfl h
  | cons a r => exact ⟨_, rfl, minI_of rfl⟩
end
/-! ### operations with short bounds -/
section
variable {M : Mem}
theorem addI (i j : Int) : opW .add M (.v (.int i)) (.v (.int j)) = some (.v (.int (i + j))) := rfl
theorem subI (i j : Int) : opW .sub M (.v (.int i)) (.v (.int j)) = some (.v (.int (i - j))) := rfl
theorem addT {l r : List D} (h : l.length + r.length ≤ 1000) : opW .add M (.v (.tup l)) (.v (.tup r)) = some (.v (.tup (l ++ r))) := if_pos (by omega)
theorem addL {a b : W} {l r : List D} (ha : asM M a = some l) (hb : asM M b = some r) (h : l.length + r.length ≤ 1000) : opW .add M a b = some (.fl (l ++ r)) := by
  have hz : l.length + r.length ≤ 16777216 := by omega
  cases a with
  | fl x =>
    simp only [opW, ha, hb]; exact if_pos hz
  | v d =>
    cases d with
    | ref n => simp only [opW, ha, hb]; exact if_pos hz
    | _ => simp [asM] at ha
theorem mulT1 {x : D} {k : Int} (h : 1 ≤ k ∧ k ≤ 1000) : opW .mul M (.v (.tup [x])) (.v (.int k)) = some (.v (.tup (List.replicate k.toNat x))) := by
  simp only [opW]
  exact if_pos h
theorem mulL {l : List D} {k : Int} (M : Mem) (h : 0 ≤ k ∧ k < 2 ^ 62 ∧ l.length * k.toNat ≤ 16777216) : opW .mul M (.fl l) (.v (.int k)) = some (.fl (List.replicate k.toNat l).flatten) := by
  simp only [opW]
  exact if_pos h
theorem flat1 (x : D) (n : Nat) : (List.replicate n [x]).flatten = List.replicate n x := by
  induction n with
  | zero => rfl
  | succ n ih => rw [List.replicate_succ, List.flatten_cons, ih]; rfl
theorem mulF {x : D} {n : Nat} (M : Mem) (hn : n ≤ 1000) : opW .mul M (.fl [x]) (.v (.int (n : Nat))) = some (.fl (List.replicate n x)) := by
  rw [mulL M ⟨Int.natCast_nonneg _, by omega, by rw [Int.toNat_natCast, List.length_singleton]; omega⟩, Int.toNat_natCast, flat1]
end
theorem Ok_bind {α β : Type} {r : Res α} {f : α → Mem → Res β} {P : β → Mem → Prop} : Ok (r.bind f) P ↔ Ok r fun a M => Ok (f a M) P := by
  constructor
  · rintro ⟨b, M, e, p⟩
    cases r with
    | ok a M1 => exact ⟨a, M1, rfl, b, M, e, p⟩
    | no => cases e
    | ex x M1 => cases e
  · exact fun h => h.bind fun _ _ q => q
theorem Ok_ok {α : Type} {a : α} {M : Mem} {P : α → Mem → Prop} : Ok (.ok a M) P ↔ P a M := ⟨fun ⟨_, _, e, p⟩ => by cases e; exact p, .ret⟩
theorem Ok.of {α : Type} {r : Res α} {a : α} {M : Mem} {P : α → Mem → Prop} (e : r = .ok a M) (h : P a M) : Ok r P := ⟨a, M, e, h⟩
theorem Ok.ife {C : Cl} {c : E} {a b : Ss} {s : Env} {M : Mem} {P : Fl → Mem → Prop} (h : Ok (evE C c s M) fun x M1 => ∃ t, x = .v (.bl t) ∧ if t = true then Ok (evSs C a s M1) P else Ok (evSs C b s M1) P) : Ok (evS C (.ife c a b) s M) P := by
  rw [evS]
  refine h.bind fun x M1 ⟨t, e, q⟩ => ?_
  subst e
  cases t with
  | true => exact q
  | false => exact q
/-! ### roads and numbers by their place -/
def wy (ws : List Way) (k : Nat) : Way := (ws[k]?).getD ⟨none, none, 0⟩
def nb (bs : List Int) (k : Nat) : Int := (bs[k]?).getD 0
theorem wy_mem {ws : List Way} {k : Nat} (h : k < ws.length) : wy ws k ∈ ws := by unfold wy; rw [List.getElem?_eq_getElem h]; exact List.getElem_mem h
theorem wy_get {ws : List Way} {k : Nat} (h : k < ws.length) : ws[k]? = some (wy ws k) := by unfold wy; rw [List.getElem?_eq_getElem h]; rfl
theorem nb_get {bs : List Int} {k : Nat} (h : k < bs.length) : bs[k]? = some (nb bs k) := by unfold nb; rw [List.getElem?_eq_getElem h]; rfl
theorem nb_mem {bs : List Int} {k : Nat} (h : k < bs.length) : nb bs k ∈ bs := by unfold nb; rw [List.getElem?_eq_getElem h]; exact List.getElem_mem h
theorem wy_of {ws : List Way} {k : Nat} {y : Way} (h : ws[k]? = some y) : wy ws k = y := by unfold wy; rw [h]; rfl
theorem nb_of {bs : List Int} {k : Nat} {b : Int} (h : bs[k]? = some b) : nb bs k = b := by unfold nb; rw [h]; rfl
theorem wyD {ws : List Way} {k : Nat} (h : k < ws.length) : ((ws.map Way.d)[k]?).getD .non = (wy ws k).d := by rw [List.getElem?_map, wy_get h]; rfl
theorem nbD {bs : List Int} {k : Nat} (h : k < bs.length) : ((bs.map D.int)[k]?).getD .non = .int (nb bs k) := by rw [List.getElem?_map, nb_get h]; rfl
section
variable {M : Mem} {ws : List Way} {bs : List Int} {k : Nat}
theorem ixK' {l : List D} {d : D} (M : Mem) (h : l[k]? = some d) : ixW M (.v (.tup l)) (.v (.int (k : Nat))) = some (.v d) := by
  simp only [ixW, asQ, asT, ixI h, Option.map_some]
theorem ixM' {l : List D} {q : Nat} {d : D} (hq : M[q]? = some (.lst l)) (h : l[k]? = some d) : ixW M (.v (.ref q)) (.v (.int (k : Nat))) = some (.v d) := by
  simp only [ixW, asQ, asT, asL, hq, ixI h, Option.map_some]
theorem ixWy (h : k < ws.length) : ixW M (.v (.tup (ws.map Way.d))) (.v (.int (k : Nat))) = some (.v (wy ws k).d) := ixK' M (by rw [List.getElem?_map, wy_get h]; rfl)
theorem ixNb (h : k < bs.length) : ixW M (.v (.tup (bs.map .int))) (.v (.int (k : Nat))) = some (.v (.int (nb bs k))) := ixK' M (by rw [List.getElem?_map, nb_get h]; rfl)
theorem ixNbL {q : Nat} (hq : M[q]? = some (.lst (bs.map .int))) (h : k < bs.length) : ixW M (.v (.ref q)) (.v (.int (k : Nat))) = some (.v (.int (nb bs k))) := ixM' hq (by rw [List.getElem?_map, nb_get h]; rfl)
theorem wyB (y : Way) : ixW M (.v y.d) (.v (.int 0)) = some (.v (endD y.b)) := rfl
theorem wyE (y : Way) : ixW M (.v y.d) (.v (.int 1)) = some (.v (endD y.e)) := rfl
theorem wyR (y : Way) : ixW M (.v y.d) (.v (.int 2)) = some (.v (.int y.r)) := rfl
theorem wyS (y : Way) {sd : Nat} (h : sd < 2) : ixW M (.v y.d) (.v (.int sd)) = some (.v (endD (y.side sd))) := ixWay M y h
theorem web0 (w : Web) : ixW M (.v w.d) (.v (.int 0)) = some (.v (.tup (w.ws.map Way.d))) := rfl
theorem web1 (w : Web) : ixW M (.v w.d) (.v (.int 1)) = some (.v (.tup (w.o0.map rowD))) := rfl
theorem web2 (w : Web) : ixW M (.v w.d) (.v (.int 2)) = some (.v (.tup (w.o1.map rowD))) := rfl
theorem lenT (l : List D) : lenW M (.v (.tup l)) = some (l.length : Int) := rfl
theorem lenL {l : List D} {q : Nat} (hq : M[q]? = some (.lst l)) : lenW M (.v (.ref q)) = some (l.length : Int) := by simp only [lenW, asQ, asT, asL, hq]
theorem eqEnd (o : Option Nat) (h : Nat) : cmpW .eq M (.v (endD o)) (.v (.int (h : Nat))) = some (decide (o = some h)) := by
  simp only [cmpW, eqW, scalEnd]
theorem isNon (o : Option Nat) : cmpW .is M (.v (endD o)) (.v .non) = some (decide (o = none)) := isEnd M o
theorem notNon (o : Option Nat) : cmpW .isnot M (.v (endD o)) (.v .non) = some (decide (o ≠ none)) := by cases o <;> rfl
theorem endEq (a b : Option Nat) : cmpW .eq M (.v (endD a)) (.v (endD b)) = some (decide (a = b)) := by
  cases a <;> cases b <;> simp [cmpW, eqW, endD, scalEq]
  first | done | (rename_i x y; exact Int.ofNat_inj)
end
end Ev

/-! EvS1: rings of lit roads. -/
namespace Ev
open PySem
def roundB (n o : Nat) : Ss := (.cons (.asg (.nm 3) (.comp (.var 10) (.nm 10) (.rng1 (.len (.ix (.var 1) (.num 0)))) (.some (.cmp .lt (.ix (.var 2) (.var 10)) (.ix (.ix (.ix (.var 1) (.num 0)) (.var 10)) (.num 2)))) [10]))
  (.cons (.asg (.nm 4) (.comp (.var 10) (.nm 10) (.val (.var 3)) (.some (.cmp .is (.ix (.ix (.ix (.var 1) (.num 0)) (.var 10)) (.num 0)) .non)) [10]))
  (.cons (.ife (.or (.cmp .eq (.var 4) (.lst .nil)) (.cmp .eq (.call n (.cons (.var 0) (.cons (.num 3) .nil))) (.num 0)))
  (.cons (.asg (.nm 4) (.var 3))
  .nil)
  .nil)
  (.cons (.ife (.cmp .eq (.var 4) (.lst .nil))
  (.cons (.ret (.lst .nil))
  .nil)
  .nil)
  (.cons (.asg (.nm 5) (.lst (.cons (.call o (.cons (.var 0) (.cons (.var 4) .nil))) .nil)))
  (.cons (.asg (.nm 6) (.lst (.cons (.ix (.ix (.ix (.var 1) (.num 0)) (.ix (.var 5) (.num 0))) (.num 0)) .nil)))
  (.cons (.whl (.cmp .notin (.ix (.ix (.ix (.var 1) (.num 0)) (.ix (.var 5) (.neg (.num 1)))) (.num 1)) (.bop .add (.var 6) (.lst (.cons .non .nil))))
  (.cons (.asg (.nm 8) (.ix (.ix (.ix (.var 1) (.num 0)) (.ix (.var 5) (.neg (.num 1)))) (.num 1)))
  (.cons (.expr (.app (.var 6) (.var 8)))
  (.cons (.asg (.nm 9) (.comp (.var 10) (.nm 10) (.val (.var 3)) (.some (.cmp .eq (.ix (.ix (.ix (.var 1) (.num 0)) (.var 10)) (.num 0)) (.var 8))) [10]))
  (.cons (.ife (.cmp .eq (.var 9) (.lst .nil))
  (.cons (.ret (.lst .nil))
  .nil)
  .nil)
  (.cons (.expr (.app (.var 5) (.call o (.cons (.var 0) (.cons (.var 9) .nil)))))
  .nil))))))
  (.cons (.asg (.nm 7) (.ix (.ix (.ix (.var 1) (.num 0)) (.ix (.var 5) (.neg (.num 1)))) (.num 1)))
  (.cons (.ife (.and (.cmp .is (.var 7) .non) (.cmp .isnot (.ix (.ix (.ix (.var 1) (.num 0)) (.ix (.var 5) (.num 0))) (.num 0)) .non))
  (.cons (.ret (.lst .nil))
  .nil)
  .nil)
  (.cons (.ret (.sl (.var 5) (.some (.ix (.lst (.cons (.idx (.var 6) (.var 7)) (.cons (.num 0) .nil))) (.toint (.cmp .is (.var 7) .non)))) .none))
  .nil))))))))))
/-- the ends of a road by its number -/
def bgn (ws : List Way) (k : Nat) : Option Nat := (ws[k]?.map Way.b).getD none
def fin (ws : List Way) (k : Nat) : Option Nat := (ws[k]?.map Way.e).getD none
/-- roads that may bear more -/
def Lit (ws : List Way) (bs : List Int) (k : Nat) : Prop := ∃ w x, ws[k]? = some w ∧ bs[k]? = some x ∧ x < w.r
/-- a way round: as the roads end, so they begin -/
structure Ring (ws : List Way) (bs : List Int) (row : List Nat) : Prop where
  ne : row ≠ []
  lit : ∀ k ∈ row, Lit ws bs k
  nd : (row.map (bgn ws)).Nodup
  turn : (row.map (fin ws)).Perm (row.map (bgn ws))
/-- a path so far: where it was, and where each road leads -/
structure Path (ws : List Way) (bs : List Int) (row : List Nat) : Prop where
  ne : row ≠ []
  lit : ∀ k ∈ row, Lit ws bs k
  nd : (row.map (bgn ws)).Nodup
  go : (row.map (bgn ws)).tail = (row.map (fin ws)).dropLast
theorem Path.one {ws : List Way} {bs : List Int} {k : Nat} (h : Lit ws bs k) : Path ws bs [k] := ⟨by simp, by simpa using h, by simp, rfl⟩
theorem Path.more {ws : List Way} {bs : List Int} {row : List Nat} {k l : Nat} (p : Path ws bs row) (hl : row.getLast? = some l) (hk : Lit ws bs k) (e : bgn ws k = fin ws l) (h : fin ws l ∉ row.map (bgn ws)) : Path ws bs (row ++ [k]) := by
  refine ⟨by simp, fun x hx => ?_, ?_, ?_⟩
  · rcases List.mem_append.mp hx with hx | hx
    · exact p.lit x hx
    · rw [List.mem_singleton.mp hx]; exact hk
  · rw [List.map_append, List.nodup_append]
    refine ⟨p.nd, by simp, fun a ha b hb z => ?_⟩
    simp at hb
    subst hb
    subst z
    rw [e] at ha
    exact h ha
  · have hne : row.map (bgn ws) ≠ [] := by simpa using p.ne
    obtain ⟨r', rfl⟩ : ∃ r', row = r' ++ [l] := ⟨row.dropLast, by rw [List.getLast?_eq_some_iff] at hl; obtain ⟨ys, rfl⟩ := hl; simp⟩
    have g := p.go
    simp only [List.map_append, List.map_cons, List.map_nil, List.dropLast_concat] at g ⊢
    rw [List.tail_append_of_ne_nil (by simp), g, e]
/-- closed: from the place where the end stands -/
theorem Path.close {ws : List Way} {bs : List Int} {row : List Nat} {l i : Nat} (p : Path ws bs row) (hl : row.getLast? = some l) (hi : (row.map (bgn ws))[i]? = some (fin ws l)) : Ring ws bs (row.drop i) := by
  have hil : i < row.length := by have := (List.getElem?_eq_some_iff.mp hi).1; simpa using this
  refine ⟨by intro z; have := congrArg List.length z; rw [List.length_drop] at this; simp at this; omega, fun k hk => p.lit k (List.mem_of_mem_drop hk), ?_, ?_⟩
  · rw [List.map_drop]
    exact p.nd.sublist (List.drop_sublist _ _)
  · obtain ⟨r', rfl⟩ : ∃ r', row = r' ++ [l] := ⟨row.dropLast, by rw [List.getLast?_eq_some_iff] at hl; obtain ⟨ys, rfl⟩ := hl; simp⟩
    have g := p.go
    simp only [List.map_append, List.map_cons, List.map_nil, List.dropLast_concat] at g hi
    rw [List.length_append, List.length_singleton] at hil
    -- begins = x :: rest, ends = rest ++ [x]
    have e1 : (((r' ++ [l]).drop i).map (bgn ws)) = fin ws l :: (((r' ++ [l]).map (bgn ws)).drop (i + 1)) := by
      rw [List.map_drop]
      have z : i < ((r' ++ [l]).map (bgn ws)).length := by simp; omega
      rw [List.drop_eq_getElem_cons z]
      congr 1
      have := (List.getElem?_eq_some_iff.mp hi).2
      simpa using this
    have e2 : (((r' ++ [l]).drop i).map (fin ws)) = (((r' ++ [l]).map (bgn ws)).drop (i + 1)) ++ [fin ws l] := by
      have z : ((r' ++ [l]).map (bgn ws)).drop (i + 1) = (r'.map (fin ws)).drop i := by
        rw [← List.drop_tail, List.map_append]
        exact congrArg (List.drop i) g
      rw [z, List.map_drop, List.map_append, List.drop_append_of_le_length (by rw [List.length_map]; omega)]
      rfl
    rw [e1, e2]
    exact List.perm_append_singleton _ _
end Ev

/-! EvS2: what the looks at a web and its stream tell. -/
namespace Ev
open PySem
section
variable {C : Cl} {M : Mem} {s : Env} {w : Web} {ws : List Way}
theorem ixK {l : List D} {k : Nat} {d : D} (M : Mem) (h : l[k]? = some d) : ixW M (.v (.tup l)) (.v (.int (k : Nat))) = some (.v d) := by
  have z : L2.atI l (k : Int) = some d := ixI' h
  simp only [ixW, asQ, asT, z, Option.map_some]
theorem ixM {l : List D} {q k : Nat} {d : D} {M : Mem} (hq : M[q]? = some (.lst l)) (h : l[k]? = some d) : ixW M (.v (.ref q)) (.v (.int (k : Nat))) = some (.v d) := by
  have z : L2.atI l (k : Int) = some d := ixI' h
  simp only [ixW, asQ, asT, asL, hq, z, Option.map_some]
theorem way0 (M : Mem) (y : Way) : ixW M (.v y.d) (.v (.int 0)) = some (.v (endD y.b)) := rfl
theorem way1 (M : Mem) (y : Way) : ixW M (.v y.d) (.v (.int 1)) = some (.v (endD y.e)) := rfl
theorem way2 (M : Mem) (y : Way) : ixW M (.v y.d) (.v (.int 2)) = some (.v (.int y.r)) := rfl
theorem wayAt {k : Nat} {y : Way} (h : ws[k]? = some y) : (ws.map Way.d)[k]? = some y.d := by rw [List.getElem?_map, h]; rfl
theorem atLast {α : Type} (l : List α) (x : α) : L2.atI (l ++ [x]) (-1) = some x := by
  unfold L2.atI L2.ixN
  rw [if_neg (by decide), if_pos (by rw [List.length_append, List.length_singleton]; omega)]
  rw [List.length_append, List.length_singleton]
  have e : (-1 + ((l.length + 1 : Nat) : Int)).toNat = l.length := by omega
  show (l ++ [x])[(-1 + ((l.length + 1 : Nat) : Int)).toNat]? = some x
  rw [e, List.getElem?_append_right (Nat.le_refl _), Nat.sub_self]
  rfl
/-- [k for k in .. if ..] -/
theorem comp_filter {it : I} {c : E} {l : List Nat} {ss : List (Nat × O)} {t : Nat} (hi : evI C it s M = .ok (intsD l, ss) M) (hs : SrcOk ss M) (ht : t < s.length) (p : Nat → Bool)
    (hc : ∀ k ∈ l, evE C c (s.set t (some (.int (k : Nat)))) M = .ok (.v (.bl (p k))) M) : evE C (.comp (.var t) (.nm t) it (.some c) [t]) s M = .ok (.fl (intsD (l.filter p))) M := by
  rw [evE, hi, rbind_ok]
  simp only
  rw [compL_pure (fun d => match d with | .int x => if p x.toNat = true then some (.int x) else none | _ => none) hs ?_, rbind_ok]
  · congr 2
    exact filt (fun k : Nat => D.int (k : Nat)) _ _ _ _ fun k hk => by simp
  · intro d hd
    obtain ⟨k, hk, rfl⟩ := List.mem_map.mp hd
    have hw : wipeE s [t] = s.set t none := rfl
    have z := hc k hk
    have g : (s.set t (some (D.int (k : Nat))))[t]? = some (some (.int (k : Nat))) := List.getElem?_set_self ht
    simp only [asgT, hw, List.set_set, evT, z, rbind_ok, toB, ropt_some]
    by_cases hp : p k = true
    · simp [hp, evE, g, Res.put, put]
    · have hp : p k = false := by simpa using hp
      simp [hp]
/-- the road k of the web -/
theorem road_at {k : Nat} {y : Way} (h1 : s[1]? = some (some w.d)) (hk : s[10]? = some (some (.int (k : Nat)))) (h : w.ws[k]? = some y) : evE C (.ix (.ix (.var 1) (.num 0)) (.var 10)) s M = .ok (.v y.d) M := by
  simp only [evE, h1, hk, rbind_ok, ix0, ropt_some, ixK M (wayAt h)]
theorem lit_cond {k q : Nat} {y : Way} {bs : List Int} {x : Int} (h1 : s[1]? = some (some w.d)) (h2 : s[2]? = some (some (.ref q))) (hk : s[10]? = some (some (.int (k : Nat)))) (hq : M[q]? = some (.lst (bs.map .int))) (h : w.ws[k]? = some y) (hx : bs[k]? = some x) :
    evE C (.cmp .lt (.ix (.var 2) (.var 10)) (.ix (.ix (.ix (.var 1) (.num 0)) (.var 10)) (.num 2))) s M = .ok (.v (.bl (decide (x < y.r)))) M := by
  have e : ixW M (.v (.ref q)) (.v (.int (k : Nat))) = some (.v (.int x)) := ixM hq (by rw [List.getElem?_map, hx]; rfl)
  rw [evE, evE]
  simp only [evE, h1, h2, hk, rbind_ok, e, ropt_some, ix0, ixK M (wayAt h), way2, cmpW, Option.map_some]
theorem none_cond {k : Nat} {y : Way} (h1 : s[1]? = some (some w.d)) (hk : s[10]? = some (some (.int (k : Nat)))) (h : w.ws[k]? = some y) :
    evE C (.cmp .is (.ix (.ix (.ix (.var 1) (.num 0)) (.var 10)) (.num 0)) .non) s M = .ok (.v (.bl (decide (y.b = none)))) M := by
  rw [evE, evE, road_at h1 hk h]
  simp only [evE, rbind_ok, way0, ropt_some, isEnd, Option.map_some]
theorem house_cond {k hh : Nat} {y : Way} (h1 : s[1]? = some (some w.d)) (h8 : s[8]? = some (some (.int (hh : Nat)))) (hk : s[10]? = some (some (.int (k : Nat)))) (h : w.ws[k]? = some y) :
    evE C (.cmp .eq (.ix (.ix (.ix (.var 1) (.num 0)) (.var 10)) (.num 0)) (.var 8)) s M = .ok (.v (.bl (decide (y.b = some hh)))) M := by
  rw [evE, evE, road_at h1 hk h]
  simp only [evE, h8, rbind_ok, way0, ropt_some, cmpW, eqW, scalEnd, Option.map_some]
/-- .. where the row's last road leads -/
theorem last_end {q l : Nat} {row : List Nat} {y : Way} (h1 : s[1]? = some (some w.d)) (h5 : s[5]? = some (some (.ref q))) (hq : M[q]? = some (.lst (intsD (row ++ [l])))) (h : w.ws[l]? = some y) :
    evE C (.ix (.ix (.ix (.var 1) (.num 0)) (.ix (.var 5) (.neg (.num 1)))) (.num 1)) s M = .ok (.v (endD y.e)) M := by
  have e : ixW M (.v (.ref q)) (.v (.int (-1))) = some (.v (.int (l : Nat))) := by
    have z : L2.atI (intsD (row ++ [l])) (-1) = some (.int (l : Nat)) := by
      unfold intsD
      rw [List.map_append]
      exact atLast _ _
    simp only [ixW, asQ, asT, asL, hq, z, Option.map_some]
  simp only [evE, h1, h5, rbind_ok, ix0, ropt_some, toI, Option.map_some, e, ixK M (wayAt h), way1]
theorem first_begin {q k : Nat} {row : List Nat} {y : Way} (h1 : s[1]? = some (some w.d)) (h5 : s[5]? = some (some (.ref q))) (hq : M[q]? = some (.lst (intsD (k :: row)))) (h : w.ws[k]? = some y) :
    evE C (.ix (.ix (.ix (.var 1) (.num 0)) (.ix (.var 5) (.num 0))) (.num 0)) s M = .ok (.v (endD y.b)) M := by
  have e : ixW M (.v (.ref q)) (.v (.int 0)) = some (.v (.int (k : Nat))) := by
    have z : L2.atI (intsD (k :: row)) 0 = some (.int (k : Nat)) := atI0
    simp only [ixW, asQ, asT, asL, hq, z, Option.map_some]
  simp only [evE, h1, h5, rbind_ok, ix0, ropt_some, e, ixK M (wayAt h), way0]
/-- a place among places -/
def endsD (l : List (Option Nat)) : List D := l.map endD
theorem end_flat (o : Option Nat) : (endD o).flat = true := by cases o <;> rfl
theorem end_eq (a b : Option Nat) : eqF (endD a) (endD b) = decide (a = b) := by
  cases a with
  | none => cases b <;> rfl
  | some a =>
    cases b with
    | none => rfl
    | some b =>
      show decide ((a : Int) = b) = _
      have e : ((a : Int) = b) ↔ ((some a : Option Nat) = some b) := by rw [Option.some.injEq]; omega
      exact decide_eq_decide.mpr e
theorem ends_in (M : Mem) (l : List (Option Nat)) (o : Option Nat) : inQ M (.v (endD o)) (.fl (endsD l)) = some (decide (o ∈ l)) := by
  have f : (endsD l).all D.flat = true := List.all_eq_true.mpr fun d hd => by obtain ⟨x, _, rfl⟩ := List.mem_map.mp hd; exact end_flat x
  have z : inQ M (.v (endD o)) (.fl (endsD l)) = some ((endsD l).any fun y => eqF y (endD o)) := if_pos ⟨end_flat o, f⟩
  rw [z]
  congr 1
  rw [Bool.eq_iff_iff, List.any_eq_true, decide_eq_true_eq]
  constructor
  · rintro ⟨d, hd, e⟩
    obtain ⟨x, hx, rfl⟩ := List.mem_map.mp hd
    rw [end_eq, decide_eq_true_eq] at e
    exact e ▸ hx
  · intro h
    exact ⟨endD o, List.mem_map.mpr ⟨o, h, rfl⟩, by rw [end_eq]; exact decide_eq_true rfl⟩
end
end Ev

/-! EvS3: rows cut, rows empty, how long a path is. -/
namespace Ev
open PySem
theorem intsD_ints (l : List Nat) : intsD l = (l.map fun k : Nat => (k : Int)).map .int := by unfold intsD; rw [List.map_map]; rfl
theorem eq_nil {M : Mem} {q : Nat} {l : List Nat} (h : M[q]? = some (.lst (intsD l))) : eqW M (.v (.ref q)) (.fl []) = some (decide (l = [])) := by
  have z : pdW M (.v (.ref q)) = some (.list ((l.map fun k : Nat => (k : Int)).map .int)) := by
    show refPd M 4 q = _
    simp only [refPd, h, intsD_ints, pds_ints]
  have z2 : pdW M (.fl []) = some (.list []) := rfl
  show pdEq (pdW M (.v (.ref q))) (pdW M (.fl [])) = _
  rw [z, z2, pdEq_nil]
  congr 1
  simp
theorem cut_from {l : List D} {i : Nat} (h : i ≤ l.length) : cut l (some (i : Int)) none = l.drop i := by
  unfold cut
  rw [HT.sIx_nat, HT.sIx_none, Nat.min_eq_left h]
  exact List.take_of_length_le (by rw [List.length_drop]; exact Nat.le_refl _)
theorem nodup_len {α : Type} [DecidableEq α] : ∀ {l m : List α}, l.Nodup → (∀ x ∈ l, x ∈ m) → l.length ≤ m.length
  | [], _, _, _ => Nat.zero_le _
  | a :: r, m, nd, sub => by
    have ha : a ∈ m := sub a (List.mem_cons_self ..)
    rw [List.nodup_cons] at nd
    have ih := nodup_len (l := r) (m := m.erase a) nd.2 fun x hx => by
      have hne : x ≠ a := fun z => nd.1 (z ▸ hx)
      exact (List.mem_erase_of_ne hne).mpr (sub x (List.mem_cons_of_mem _ hx))
    rw [List.length_erase_of_mem ha] at ih
    have := List.length_pos_of_mem ha
    rw [List.length_cons]
    omega
theorem path_len {ws : List Way} {bs : List Int} {row : List Nat} {n : Nat} (p : Path ws bs row) (ok : ∀ y ∈ ws, y.Ok n) : row.length ≤ n + 1 := by
  have sub : ∀ o ∈ row.map (bgn ws), o ∈ (none :: (List.range n).map some) := by
    intro o ho
    obtain ⟨k, hk, rfl⟩ := List.mem_map.mp ho
    obtain ⟨w, x, h1, _, _⟩ := p.lit k hk
    have hw := ok w (List.mem_of_getElem? h1)
    unfold bgn
    rw [h1]
    show w.b ∈ _
    cases hb : w.b with
    | none => exact List.mem_cons_self ..
    | some j => exact List.mem_cons_of_mem _ (List.mem_map.mpr ⟨j, List.mem_range.mpr (hw.b0 j hb), rfl⟩)
  have z := nodup_len p.nd sub
  simpa using z
end Ev

/-! EvS4: a way round is found. -/
namespace Ev
open PySem
def litb (ws : List Way) (bs : List Int) (k : Nat) : Bool := match ws[k]?, bs[k]? with
  | some y, some x => decide (x < y.r)
  | _, _ => false
theorem litb_of {ws : List Way} {bs : List Int} {k : Nat} (h : litb ws bs k = true) : Lit ws bs k := by
  unfold litb at h
  split at h
  · rename_i y x e1 e2
    exact ⟨y, x, e1, e2, of_decide_eq_true h⟩
  · cases h
theorem lit_at {ws : List Way} {bs : List Int} {k : Nat} (h : Lit ws bs k) : ∃ y, ws[k]? = some y ∧ bgn ws k = y.b ∧ fin ws k = y.e := by
  obtain ⟨y, x, e1, _, _⟩ := h
  exact ⟨y, e1, by unfold bgn; rw [e1]; rfl, by unfold fin; rw [e1]; rfl⟩
theorem ends_app (l : List (Option Nat)) (o : Option Nat) : endsD (l ++ [o]) = endsD l ++ [endD o] := by unfold endsD; rw [List.map_append]; rfl
theorem ints_app (l : List Nat) (k : Nat) : intsD (l ++ [k]) = intsD l ++ [.int (k : Nat)] := by unfold intsD; rw [List.map_append]; rfl
section
variable {C : Cl} {n o : Nat} {B : Nat} {X M : Mem} {w : Web} {bs : List Int}
theorem round_loop (ho : One C o) (hf : 200 ≤ C.fuel) {hs rs : Nat} (ok : w.Ok hs rs) (hh : hs ≤ 100) (hr : rs ≤ 100) {Y : Mem} {L : Nat} {lits : List Nat} (hl : ∀ k ∈ lits, Lit w.ws bs k) (hll : lits.length ≤ 1000) (hB : B + 1000 < 2 ^ 60)
    (aL : ∀ Z, LstAt (Y ++ Z) L (intsD lits)) {x2 x4 x8 x9 x10 : Option D} {row : List Nat} {l : Nat} {Z : Mem} (p : Path w.ws bs (row ++ [l]))
    (h : Dk B (Y ++ .lst (intsD (row ++ [l])) :: .lst (endsD ((row ++ [l]).map (bgn w.ws))) :: Z) M) :
    Ok (evS C (.whl (.cmp .notin (.ix (.ix (.ix (.var 1) (.num 0)) (.ix (.var 5) (.neg (.num 1)))) (.num 1)) (.bop .add (.var 6) (.lst (.cons .non .nil))))
      (.cons (.asg (.nm 8) (.ix (.ix (.ix (.var 1) (.num 0)) (.ix (.var 5) (.neg (.num 1)))) (.num 1)))
      (.cons (.expr (.app (.var 6) (.var 8)))
      (.cons (.asg (.nm 9) (.comp (.var 10) (.nm 10) (.val (.var 3)) (.some (.cmp .eq (.ix (.ix (.ix (.var 1) (.num 0)) (.var 10)) (.num 0)) (.var 8))) [10]))
      (.cons (.ife (.cmp .eq (.var 9) (.lst .nil)) (.cons (.ret (.lst .nil)) .nil) .nil)
      (.cons (.expr (.app (.var 5) (.call o (.cons (.var 0) (.cons (.var 9) .nil))))) .nil))))))
      [some (.ref 3), some w.d, x2, some (.ref L), x4, some (.ref (4 + Y.length)), some (.ref (4 + (Y.length + 1))), none, x8, x9, x10] M)
      fun f M' => match f with
        | .nx s' => ∃ (row : List Nat) (l : Nat) (Z : Mem) (x8 x9 x10 : Option D), s' = [some (.ref 3), some w.d, x2, some (.ref L), x4, some (.ref (4 + Y.length)), some (.ref (4 + (Y.length + 1))), none, x8, x9, x10] ∧ Path w.ws bs (row ++ [l]) ∧
            (fin w.ws l ∈ (row ++ [l]).map (bgn w.ws) ++ [none]) ∧ Dk (B + 150) (Y ++ .lst (intsD (row ++ [l])) :: .lst (endsD ((row ++ [l]).map (bgn w.ws))) :: Z) M'
        | .rt x => x = .fl [] ∧ ∃ Z', Dk (B + 150) (Y ++ Z') M'
        | _ => False := by
  rw [evS]
  have hn := ok.n2
  refine whl_ok (fun m s M1 => ∃ (row : List Nat) (l : Nat) (Z : Mem) (x8 x9 x10 : Option D), s = [some (.ref 3), some w.d, x2, some (.ref L), x4, some (.ref (4 + Y.length)), some (.ref (4 + (Y.length + 1))), none, x8, x9, x10] ∧ Path w.ws bs (row ++ [l]) ∧
      m + row.length = 110 ∧ Dk (B + row.length) (Y ++ .lst (intsD (row ++ [l])) :: .lst (endsD ((row ++ [l]).map (bgn w.ws))) :: Z) M1) ?_ (110 - row.length) C.fuel _ _ (by omega) ?_
  · rintro m s M1 ⟨row, l, Z, x8, x9, x10, rfl, p, hm, h⟩
    obtain ⟨y, hy, eb, ee⟩ := lit_at (p.lit l (by simp))
    have hrow : M1[4 + Y.length]? = some (.lst (intsD (row ++ [l]))) := h.mid
    have hfr : ∀ (R : List D) (S : List D) (Z : Mem), (Y ++ .lst R :: .lst S :: Z) = (Y ++ [.lst R]) ++ .lst S :: Z := fun R S Z => by simp
    have hseen : M1[4 + (Y.length + 1)]? = some (.lst (endsD ((row ++ [l]).map (bgn w.ws)))) := by
      have z := h
      rw [hfr] at z
      have z2 := z.mid
      rw [List.length_append] at z2
      exact z2
    have hpl := path_len p ok.wo
    rw [List.length_append, List.length_singleton] at hpl
    have hle := last_end (C := C) (s := [some (.ref 3), some w.d, x2, some (.ref L), x4, some (.ref (4 + Y.length)), some (.ref (4 + (Y.length + 1))), none, x8, x9, x10]) (M := M1) rfl rfl hrow hy
    have hc : evE C (.cmp .notin (.ix (.ix (.ix (.var 1) (.num 0)) (.ix (.var 5) (.neg (.num 1)))) (.num 1)) (.bop .add (.var 6) (.lst (.cons .non .nil)))) [some (.ref 3), some w.d, x2, some (.ref L), x4, some (.ref (4 + Y.length)), some (.ref (4 + (Y.length + 1))), none, x8, x9, x10] M1 =
        .ok (.v (.bl (!decide (fin w.ws l ∈ (row ++ [l]).map (bgn w.ws) ++ [none])))) M1 := by
      rw [evE, hle, rbind_ok]
      have e2 : evE C (.bop .add (.var 6) (.lst (.cons .non .nil))) [some (.ref 3), some w.d, x2, some (.ref L), x4, some (.ref (4 + Y.length)), some (.ref (4 + (Y.length + 1))), none, x8, x9, x10] M1 = .ok (.fl (endsD ((row ++ [l]).map (bgn w.ws) ++ [none]))) M1 := by
        simp only [evE, evEs, List.getElem?_cons_succ, List.getElem?_cons_zero, rbind_ok, Res.put, put, opW, asM, hseen]
        rw [if_pos (by simp [endsD]; omega), ropt_some, ends_app]
        rfl
      rw [e2, rbind_ok]
      have e3 : cmpW .notin M1 (.v (endD y.e)) (.fl (endsD ((row ++ [l]).map (bgn w.ws) ++ [none]))) = some (!decide (fin w.ws l ∈ (row ++ [l]).map (bgn w.ws) ++ [none])) := by
        show (inQ M1 _ _).map _ = _
        rw [ends_in, ee]
        rfl
      rw [e3]
      rfl
    rw [hc]
    refine .ret ?_
    by_cases hin : fin w.ws l ∈ (row ++ [l]).map (bgn w.ws) ++ [none]
    · simp only [hin, decide_true, Bool.not_true]
      exact ⟨row, l, Z, x8, x9, x10, rfl, p, hin, h.mono (by omega)⟩
    · simp only [hin, decide_false, Bool.not_false]
      -- a house not seen
      obtain ⟨hou, he⟩ : ∃ k, fin w.ws l = some k := by
        cases q : fin w.ws l with
        | none => exact absurd (by rw [q]; simp) hin
        | some k => exact ⟨k, rfl⟩
      have hnotin : fin w.ws l ∉ (row ++ [l]).map (bgn w.ws) := fun z => hin (List.mem_append_left _ z)
      refine Ok.cons (Ok.asg ?_)
      rw [hle]
      refine .ret ?_
      rw [← ee, he]
      simp only [put, List.set, endD]
      refine Ok.cons (Ok.ex (Ok.app ?_))
      simp only [evE, List.getElem?_cons_succ, List.getElem?_cons_zero]
      refine .ret ⟨by simp only [recL, hseen], .ret ?_⟩
      simp only [put]
      refine ⟨_, _, rfl, hseen, by simp [endsD]; omega, ?_⟩
      have h1 : Dk (B + row.length) (Y ++ .lst (intsD (row ++ [l])) :: .lst (endsD ((row ++ [l]).map (bgn w.ws) ++ [some hou])) :: Z) (M1.set (4 + (Y.length + 1)) (.lst (endsD ((row ++ [l]).map (bgn w.ws)) ++ [.int (hou : Nat)]))) := by
        have z := h
        rw [hfr] at z
        have z2 := z.setMid (.lst (endsD ((row ++ [l]).map (bgn w.ws) ++ [some hou])))
        rw [hfr]
        rw [List.length_append] at z2
        rw [ends_app] at z2 ⊢
        exact z2
      generalize M1.set (4 + (Y.length + 1)) (.lst (endsD ((row ++ [l]).map (bgn w.ws)) ++ [.int (hou : Nat)])) = M2 at h1
      have hlit : M2[L]? = some (.lst (intsD lits)) := (aL _).get h1
      refine Ok.cons (Ok.asg ?_)
      have hcomp := comp_filter (C := C) (M := M2) (s := [some (.ref 3), some w.d, x2, some (.ref L), x4, some (.ref (4 + Y.length)), some (.ref (4 + (Y.length + 1))), none, some (.int (hou : Nat)), x9, x10]) (it := .val (.var 3)) (c := .cmp .eq (.ix (.ix (.ix (.var 1) (.num 0)) (.var 10)) (.num 0)) (.var 8)) (l := lits) (ss := [(L, .lst (intsD lits))]) (t := 10)
        (by simp only [evI, evE, List.getElem?_cons_succ, List.getElem?_cons_zero, rbind_ok, asQ, asT, asL, hlit, Option.map_some, ropt_some, srcs]) (by intro q hq; rw [List.mem_singleton.mp hq]; exact hlit) (by simp) (fun k => decide (bgn w.ws k = some hou)) (by
          intro k hk
          obtain ⟨yk, hyk, ebk, _⟩ := lit_at (hl k hk)
          rw [ebk]
          exact house_cond rfl rfl rfl hyk)
      rw [hcomp]
      refine .ret ?_
      simp only [put, List.set]
      generalize hfu : lits.filter (fun k => decide (bgn w.ws k = some hou)) = fu
      have hfl : ∀ k ∈ fu, Lit w.ws bs k ∧ bgn w.ws k = some hou := fun k hk => by
        rw [← hfu, List.mem_filter, decide_eq_true_eq] at hk
        exact ⟨hl k hk.1, hk.2⟩
      have hfz : fu.length ≤ 1000 := by rw [← hfu]; exact Nat.le_trans (List.length_filter_le _ _) hll
      have h2 := h1.push (.lst (intsD fu))
      have hq2 : (M2 ++ [O.lst (intsD fu)])[M2.length]? = some (.lst (intsD fu)) := by rw [List.getElem?_append_right (Nat.le_refl _), Nat.sub_self]; rfl
      have he9 : evE C (.cmp .eq (.var 9) (.lst .nil)) [some (.ref 3), some w.d, x2, some (.ref L), x4, some (.ref (4 + Y.length)), some (.ref (4 + (Y.length + 1))), none, some (.int (hou : Nat)), some (.ref M2.length), x10] (M2 ++ [O.lst (intsD fu)]) = .ok (.v (.bl (decide (fu = [])))) (M2 ++ [O.lst (intsD fu)]) := by
        simp only [evE, evEs, List.getElem?_cons_succ, List.getElem?_cons_zero, rbind_ok, cmpW, eq_nil hq2, Option.map_some, ropt_some]
      refine Ok.cons ?_
      by_cases hfe : fu = []
      · have ht : decide (fu = []) = true := decide_eq_true hfe
        rw [ht] at he9
        rw [ife_t he9, cons_rt (ret_eq (w := .fl []) (M1 := M2 ++ [O.lst (intsD fu)]) (by simp only [evE, evEs, rbind_ok]))]
        rw [List.append_assoc] at h2
        exact .ret ⟨rfl, _, h2.mono (by omega)⟩
      · have ht : decide (fu = []) = false := decide_eq_false hfe
        rw [ht] at he9
        rw [ife_f he9, nil_nx]
        refine .ret ?_
        refine Ok.cons (Ok.ex (Ok.app ?_))
        have hrow2 : (M2 ++ [O.lst (intsD fu)])[4 + Y.length]? = some (.lst (intsD (row ++ [l]))) := by
          rw [List.append_assoc] at h2
          exact h2.mid
        simp only [evE, List.getElem?_cons_succ, List.getElem?_cons_zero]
        refine .ret ⟨by simp only [recL, hrow2], ?_⟩
        simp only [evEs, evE, List.getElem?_cons_succ, List.getElem?_cons_zero, rbind_ok, Res.put, put]
        refine (ho (by omega) h2 (LstAt.lastN h1.len) (by simpa [intsD] using hfe) (by unfold intsD; rw [List.length_map]; exact hfz) (fun d hd => by obtain ⟨k, _, rfl⟩ := List.mem_map.mp hd; rfl)).mono fun x M3 ⟨d, e, hd, h3⟩ => ?_
        subst e
        obtain ⟨k, hk, rfl⟩ := List.mem_map.mp hd
        obtain ⟨hk1, hk2⟩ := hfl k hk
        have h4 : Dk (B + row.length + 1) (Y ++ .lst (intsD (row ++ [l])) :: .lst (endsD ((row ++ [l]).map (bgn w.ws) ++ [some hou])) :: (Z ++ [.lst (intsD fu)])) M3 := by
          simpa using h3
        refine ⟨_, _, rfl, h4.mid, by simp [intsD]; omega, Ok.nil ?_⟩
        have h5 := h4.setMid (.lst (intsD (row ++ [l] ++ [k])))
        have hm2 : ((row ++ [l] ++ [k]).map (bgn w.ws)) = (row ++ [l]).map (bgn w.ws) ++ [some hou] := by rw [List.map_append (l₁ := row ++ [l])]; simp [hk2]
        refine ⟨109 - (row.length + 0), by omega, row ++ [l], k, Z ++ [.lst (intsD fu)], some (.int (hou : Nat)), some (.ref M2.length), x10, rfl, p.more (by simp) hk1 (by rw [hk2, he]) hnotin, by rw [List.length_append, List.length_singleton]; omega, ?_⟩
        rw [hm2, List.length_append, List.length_singleton]
        rw [ints_app (row ++ [l])] at h5 ⊢
        exact h5
  · have hpl := path_len p ok.wo
    rw [List.length_append, List.length_singleton] at hpl
    refine ⟨row, l, Z, x8, x9, x10, rfl, p, by omega, h.mono (by omega)⟩
end
end Ev

/-! EvS5: a way round, whole. -/
namespace Ev
open PySem
section
variable {C : Cl} {n o : Nat} {B : Nat} {X M : Mem} {w : Web} {bs : List Int}
theorem leave_row {B B' : Nat} {X Y M M1 : Mem} (l : List Nat) (h : Dk B X M) (h1 : Dk B' (X ++ Y) M1) {P : W → Mem → Prop} (q : ∀ M', Dk B' X M' → P (.fl (intsD l)) M') : Ok (leave M (.fl (intsD l)) M1) P := by
  unfold leave
  rw [if_pos (h.pre h1), if_pos (show W.bel M.length (.fl (intsD l)) = true by rw [W.bel]; exact pures_bel _ (pures_all fun d hd => by obtain ⟨k, _, rfl⟩ := List.mem_map.mp hd; rfl))]
  exact .ret (q _ (h.cut h1))
theorem find_end {l : List (Option Nat)} {o : Option Nat} (h : o ∈ l) : ∃ i, ((endsD l).findIdx? fun y => eqF y (endD o)) = some i ∧ l[i]? = some o := by
  induction l with
  | nil => cases h
  | cons a r ih =>
    unfold endsD at ih ⊢
    rw [List.map_cons, List.findIdx?_cons, end_eq]
    by_cases c : a = o
    · subst c
      exact ⟨0, by simp, rfl⟩
    · have hr : o ∈ r := by
        rcases List.mem_cons.mp h with z | z
        · exact absurd z.symm c
        · exact z
      obtain ⟨i, e1, e2⟩ := ih hr
      exact ⟨i + 1, by simp [c, e1], by simpa using e2⟩
theorem round_ok (hn : Nx C n) (ho : One C o) (hf : 200 ≤ C.fuel) {hs rs : Nat} (ok : w.Ok hs rs) (hh : hs ≤ 100) (hr : rs ≤ 100) (hb : bs.length = w.ws.length) {q : Nat} (hB : B + 2000 < 2 ^ 60) (h : Dk B X M) (a : LstAt X q (bs.map .int)) :
    Ok (runB C ⟨3, 11, roundB n o⟩ [.ref 3, w.d, .ref q] M) fun x M' => ∃ row : List Nat, x = .fl (intsD row) ∧ (row = [] ∨ Ring w.ws bs row) ∧ Dk (B + 200) X M' := by
  refine runB_ok rfl ?_
  show Ok (evSs C (roundB n o) [some (.ref 3), some w.d, some (.ref q), none, none, none, none, none, none, none, none] M) _
  have hm2 := ok.m2
  have hz : w.ws.length ≤ 1000 := by omega
  unfold roundB
  -- the lit roads
  have hlen : evE C (.len (.ix (.var 1) (.num 0))) [some (.ref 3), some w.d, some (.ref q), none, none, none, none, none, none, none, none] M = .ok (.v (.int (w.ws.length : Nat))) M := by
    simp only [evE, List.getElem?_cons_succ, List.getElem?_cons_zero, rbind_ok, ix0, ropt_some, lenW, asQ, asT, List.length_map, Option.map_some]
  have hq := a.get h
  have c1 := comp_filter (C := C) (M := M) (s := [some (.ref 3), some w.d, some (.ref q), none, none, none, none, none, none, none, none]) (it := .rng1 (.len (.ix (.var 1) (.num 0)))) (c := .cmp .lt (.ix (.var 2) (.var 10)) (.ix (.ix (.ix (.var 1) (.num 0)) (.var 10)) (.num 2))) (l := List.range w.ws.length) (ss := []) (t := 10)
    (by rw [rng1_ok hlen (rngOk_small hz), rng_nat]; rfl) (srcNil M) (by simp) (litb w.ws bs) (by
      intro k hk
      have hk := List.mem_range.mp hk
      have e1 : w.ws[k]? = some w.ws[k] := List.getElem?_eq_getElem hk
      have e2 : bs[k]? = some bs[k] := List.getElem?_eq_getElem (by omega)
      have e3 : litb w.ws bs k = decide (bs[k] < w.ws[k].r) := by unfold litb; rw [e1, e2]
      rw [e3]
      exact lit_cond rfl rfl rfl hq e1 e2)
  generalize hli : (List.range w.ws.length).filter (litb w.ws bs) = lits at c1
  have hl : ∀ k ∈ lits, Lit w.ws bs k := fun k hk => by rw [← hli, List.mem_filter] at hk; exact litb_of hk.2
  have hll : lits.length ≤ 1000 := by rw [← hli]; exact Nat.le_trans (List.length_filter_le _ _) (by rw [List.length_range]; exact hz)
  refine Ok.cons (Ok.asg ?_)
  rw [c1]
  refine .ret ?_
  simp only [put, List.set]
  have h1 := h.push (.lst (intsD lits))
  have eL : M.length = 4 + X.length := h.len
  rw [eL]
  have aL : ∀ Z, LstAt (X ++ .lst (intsD lits) :: Z) (4 + X.length) (intsD lits) := fun Z => LstAt.mid rfl
  -- those that begin outside
  have hL1 : (M ++ [O.lst (intsD lits)])[4 + X.length]? = some (.lst (intsD lits)) := h1.last
  have c2 := comp_filter (C := C) (M := M ++ [O.lst (intsD lits)]) (s := [some (.ref 3), some w.d, some (.ref q), some (.ref (4 + X.length)), none, none, none, none, none, none, none]) (it := .val (.var 3)) (c := .cmp .is (.ix (.ix (.ix (.var 1) (.num 0)) (.var 10)) (.num 0)) .non) (l := lits) (ss := [(4 + X.length, .lst (intsD lits))]) (t := 10)
    (by simp only [evI, evE, List.getElem?_cons_succ, List.getElem?_cons_zero, rbind_ok, asQ, asT, asL, hL1, Option.map_some, ropt_some, srcs]) (by intro q hq; rw [List.mem_singleton.mp hq]; exact hL1) (by simp) (fun k => decide (bgn w.ws k = none)) (by
      intro k hk
      obtain ⟨yk, hyk, ebk, _⟩ := lit_at (hl k hk)
      rw [ebk]
      exact none_cond rfl rfl hyk)
  generalize hgi : lits.filter (fun k => decide (bgn w.ws k = none)) = bg at c2
  have hbg : ∀ k ∈ bg, k ∈ lits := fun k hk => by rw [← hgi, List.mem_filter] at hk; exact hk.1
  have hbl : bg.length ≤ 1000 := by rw [← hgi]; exact Nat.le_trans (List.length_filter_le _ _) hll
  refine Ok.cons (Ok.asg ?_)
  rw [c2]
  refine .ret ?_
  simp only [put, List.set]
  have h2 := h1.push (.lst (intsD bg))
  rw [h1.len, List.length_append, List.length_singleton]
  rw [List.append_assoc] at h2
  -- where to begin: slot 4 is one of the two rows
  refine Ok.cons (Ok.mono (P := fun f M1 => ∃ (G : Nat) (gs : List Nat), f = .nx [some (.ref 3), some w.d, some (.ref q), some (.ref (4 + X.length)), some (.ref G), none, none, none, none, none, none] ∧ (∀ k ∈ gs, k ∈ lits) ∧ gs.length ≤ 1000 ∧ (∀ Z, LstAt (X ++ .lst (intsD lits) :: .lst (intsD bg) :: Z) G (intsD gs)) ∧ Dk (B + 1) (X ++ .lst (intsD lits) :: .lst (intsD bg) :: []) M1) ?_ ?_)
  · have aG : ∀ Z, LstAt (X ++ .lst (intsD lits) :: .lst (intsD bg) :: Z) (4 + (X.length + 1)) (intsD bg) := fun Z => by
      have z : LstAt ((X ++ [.lst (intsD lits)]) ++ .lst (intsD bg) :: Z) (4 + (X.length + 1)) (intsD bg) := LstAt.mid (by rw [List.length_append]; rfl)
      simpa using z
    have h2' : Dk B (X ++ .lst (intsD lits) :: .lst (intsD bg) :: []) (M ++ [O.lst (intsD lits)] ++ [O.lst (intsD bg)]) := by simpa using h2
    have hG := (aG []).get h2'
    refine Ok.ife ?_
    rw [or_ev]
    have e1 : evE C (.cmp .eq (.var 4) (.lst .nil)) [some (.ref 3), some w.d, some (.ref q), some (.ref (4 + X.length)), some (.ref (4 + (X.length + 1))), none, none, none, none, none, none] (M ++ [O.lst (intsD lits)] ++ [O.lst (intsD bg)]) = .ok (.v (.bl (decide (bg = [])))) (M ++ [O.lst (intsD lits)] ++ [O.lst (intsD bg)]) := by
      simp only [evE, evEs, List.getElem?_cons_succ, List.getElem?_cons_zero, rbind_ok, cmpW, eq_nil hG, Option.map_some, ropt_some]
    rw [e1]
    simp only [rbind_ok, toB, ropt_some]
    have tk : ∀ M1, Dk (B + 1) (X ++ .lst (intsD lits) :: .lst (intsD bg) :: []) M1 → Ok (evSs C (.cons (.asg (.nm 4) (.var 3)) .nil) [some (.ref 3), some w.d, some (.ref q), some (.ref (4 + X.length)), some (.ref (4 + (X.length + 1))), none, none, none, none, none, none] M1) fun f M1 => ∃ (G : Nat) (gs : List Nat), f = .nx [some (.ref 3), some w.d, some (.ref q), some (.ref (4 + X.length)), some (.ref G), none, none, none, none, none, none] ∧ (∀ k ∈ gs, k ∈ lits) ∧ gs.length ≤ 1000 ∧ (∀ Z, LstAt (X ++ .lst (intsD lits) :: .lst (intsD bg) :: Z) G (intsD gs)) ∧ Dk (B + 1) (X ++ .lst (intsD lits) :: .lst (intsD bg) :: []) M1 := by
      intro M1 h3
      refine Ok.cons (Ok.asg ?_)
      simp only [evE, List.getElem?_cons_succ, List.getElem?_cons_zero]
      refine .ret ?_
      simp only [put, List.set]
      exact Ok.nil ⟨_, lits, rfl, fun k hk => hk, hll, fun Z => aL _, h3⟩
    by_cases hbe : bg = []
    · rw [if_pos (decide_eq_true hbe)]
      refine .ret ⟨true, rfl, ?_⟩
      rw [if_pos rfl]
      exact tk _ (h2'.mono (by omega))
    · rw [if_neg (by simpa using hbe)]
      have e2 : evE C (.cmp .eq (.call n (.cons (.var 0) (.cons (.num 3) .nil))) (.num 0)) [some (.ref 3), some w.d, some (.ref q), some (.ref (4 + X.length)), some (.ref (4 + (X.length + 1))), none, none, none, none, none, none] (M ++ [O.lst (intsD lits)] ++ [O.lst (intsD bg)]) = (C.call n [.ref 3, .int 3] (M ++ [O.lst (intsD lits)] ++ [O.lst (intsD bg)])).bind fun x M1 => .opt ((cmpW .eq M1 x (.v (.int 0))).map fun r => .v (.bl r)) M1 := by
        simp only [evE, evEs, List.getElem?_cons_succ, List.getElem?_cons_zero, rbind_ok, Res.put, put]
      rw [e2]
      simp only [rbind_assoc]
      refine (hn (many := 3) (by decide) (by decide) (by omega) h2').bind fun x M1 ⟨v, e, v0, v1, h3⟩ => ?_
      subst e
      simp only [cmpW, eqW, scalEq, Option.map_some, ropt_some, rbind_ok, toB]
      refine .ret ⟨decide (v = 0), rfl, ?_⟩
      by_cases hv : v = 0
      · rw [if_pos (decide_eq_true hv)]
        exact tk _ h3
      · rw [if_neg (by simpa using hv)]
        exact Ok.nil ⟨_, bg, rfl, hbg, hbl, aG, h3⟩
  · rintro f M1 ⟨G, gs, rfl, hg1, hg2, hg3, h3⟩
    simp only
    generalize hY : X ++ O.lst (intsD lits) :: O.lst (intsD bg) :: [] = Y at h3
    have hYg : ∀ Z, X ++ O.lst (intsD lits) :: O.lst (intsD bg) :: Z = Y ++ Z := fun Z => by rw [← hY]; simp
    have hG : M1[G]? = some (.lst (intsD gs)) := by
      have z := hg3 []
      rw [hY] at z
      exact z.get h3
    have e1 : evE C (.cmp .eq (.var 4) (.lst .nil)) [some (.ref 3), some w.d, some (.ref q), some (.ref (4 + X.length)), some (.ref G), none, none, none, none, none, none] M1 = .ok (.v (.bl (decide (gs = [])))) M1 := by
      simp only [evE, evEs, List.getElem?_cons_succ, List.getElem?_cons_zero, rbind_ok, cmpW, eq_nil hG, Option.map_some, ropt_some]
    have out : ∀ {B' : Nat} {Z M2 : Mem} (row : List Nat), B' ≤ B + 200 → (row = [] ∨ Ring w.ws bs row) → Dk B' (Y ++ Z) M2 → Ok (leave M (.fl (intsD row)) M2) fun x M' => ∃ row : List Nat, x = .fl (intsD row) ∧ (row = [] ∨ Ring w.ws bs row) ∧ Dk (B + 200) X M' := by
      intro B' Z M2 row hB' hrow h4
      rw [← hYg] at h4
      exact leave_row row h h4 fun M' q => ⟨row, rfl, hrow, q.mono hB'⟩
    refine Ok.cons (Ok.ife ?_)
    rw [e1]
    refine .ret ⟨_, rfl, ?_⟩
    by_cases hge : gs = []
    · rw [if_pos (decide_eq_true hge), cons_rt (ret_eq (w := .fl []) (M1 := M1) (by simp only [evE, evEs, rbind_ok]))]
      exact .ret (out (B' := B + 1) (Z := []) [] (by omega) (.inl rfl) (by simpa using h3))
    rw [if_neg (by simpa using hge), nil_nx]
    refine .ret ?_
    simp only
    -- the first road
    refine Ok.cons (Ok.asg ?_)
    simp only [evE, evEs, List.getElem?_cons_succ, List.getElem?_cons_zero, rbind_ok, Res.put, put, rbind_assoc]
    have aG : LstAt Y G (intsD gs) := by have z := hg3 []; rwa [hY] at z
    refine (ho (by omega) h3 aG (by simpa [intsD] using hge) (by unfold intsD; rw [List.length_map]; exact hg2) (fun d hd => by obtain ⟨k, _, rfl⟩ := List.mem_map.mp hd; rfl)).bind fun x M2 ⟨d, e, hd, h4⟩ => ?_
    subst e
    obtain ⟨k, hk, rfl⟩ := List.mem_map.mp hd
    have hkl := hl k (hg1 k hk)
    obtain ⟨y, hy, eb, ee⟩ := lit_at hkl
    simp only [rbind_ok]
    refine .ret ?_
    simp only [put, List.set]
    have h5 := h4.push (.lst (intsD [k]))
    rw [h4.len]
    have hrow : (M2 ++ [O.lst (intsD [k])])[4 + Y.length]? = some (.lst (intsD [k])) := h5.last
    -- where it begins
    refine Ok.cons (Ok.asg ?_)
    have fb := first_begin (C := C) (w := w) (s := [some (.ref 3), some w.d, some (.ref q), some (.ref (4 + X.length)), some (.ref G), some (.ref (4 + Y.length)), none, none, none, none, none]) (M := M2 ++ [O.lst [D.int (k : Nat)]]) (row := []) rfl rfl hrow hy
    rw [evE, evEs, fb]
    simp only [evEs, rbind_ok, Res.put, put]
    refine .ret ?_
    simp only [put, List.set]
    have h6 := h5.push (.lst [endD y.b])
    have e6 : (M2 ++ [O.lst [D.int (k : Nat)]]).length = 4 + (Y.length + 1) := by rw [List.length_append, h4.len]; rfl
    rw [e6]
    have h7 : Dk (B + 1 + 1) (Y ++ .lst (intsD ([] ++ [k])) :: .lst (endsD (([] ++ [k]).map (bgn w.ws))) :: []) (M2 ++ [O.lst [D.int (k : Nat)]] ++ [O.lst [endD y.b]]) := by
      have z : endsD (([] ++ [k]).map (bgn w.ws)) = [endD y.b] := by simp [endsD, eb]
      rw [z]
      simpa [intsD] using h6
    have aL2 : ∀ Z, LstAt (Y ++ Z) (4 + X.length) (intsD lits) := fun Z => by rw [← hYg]; exact aL _
    refine Ok.cons ((round_loop (x2 := some (.ref q)) (x4 := some (.ref G)) (x8 := none) (x9 := none) (x10 := none) ho hf ok hh hr hl hll (by omega) aL2 (.one hkl) h7).mono ?_)
    rintro f M3 hp
    cases f with
    | rt x =>
      obtain ⟨rfl, Z', h8⟩ := hp
      exact out [] (by omega) (.inl rfl) h8
    | bk _ => exact hp.elim
    | ct _ => exact hp.elim
    | nx s' =>
      obtain ⟨row, l, Z, x8, x9, x10, rfl, p, hin, h8⟩ := hp
      simp only
      obtain ⟨y2, hy2, eb2, ee2⟩ := lit_at (p.lit l (by simp))
      have hrow3 : M3[4 + Y.length]? = some (.lst (intsD (row ++ [l]))) := h8.mid
      have hseen : M3[4 + (Y.length + 1)]? = some (.lst (endsD ((row ++ [l]).map (bgn w.ws)))) := by
        have z := h8
        have hfr : (Y ++ O.lst (intsD (row ++ [l])) :: O.lst (endsD ((row ++ [l]).map (bgn w.ws))) :: Z) = (Y ++ [O.lst (intsD (row ++ [l]))]) ++ O.lst (endsD ((row ++ [l]).map (bgn w.ws))) :: Z := by simp
        rw [hfr] at z
        have z2 := z.mid
        rw [List.length_append] at z2
        exact z2
      refine Ok.cons (Ok.asg ?_)
      rw [last_end rfl rfl hrow3 hy2]
      refine .ret ?_
      simp only [put, List.set]
      rw [← ee2]
      have fhd : ∃ k0 r0, row ++ [l] = k0 :: r0 := by
        cases row with
        | nil => exact ⟨l, [], rfl⟩
        | cons a r => exact ⟨a, r ++ [l], rfl⟩
      obtain ⟨k0, r0, hk0⟩ := fhd
      obtain ⟨y0, hy0, eb0, _⟩ := lit_at (p.lit k0 (by rw [hk0]; exact List.mem_cons_self ..))
      generalize hfe : fin w.ws l = fe at hin
      have e7 : ∀ s : Env, s[7]? = some (some (endD fe)) → evE C (.cmp .is (.var 7) .non) s M3 = .ok (.v (.bl (decide (fe = none)))) M3 := fun s hs => by
        simp only [evE, hs, rbind_ok, isEnd, Option.map_some, ropt_some]
      -- a way that comes from a house and leads outside
      refine Ok.cons (Ok.ife ?_)
      rw [and_ev, e7 _ rfl]
      simp only [rbind_ok, toB, ropt_some]
      have fb0 := first_begin (C := C) (w := w) (s := [some (.ref 3), some w.d, some (.ref q), some (.ref (4 + X.length)), some (.ref G), some (.ref (4 + Y.length)), some (.ref (4 + (Y.length + 1))), some (endD fe), x8, x9, x10]) (M := M3) (row := r0) (k := k0) rfl rfl (by rw [← hk0]; exact hrow3) hy0
      have isn : cmpW .isnot M3 (.v (endD y0.b)) (.v .non) = some (!decide (y0.b = none)) := by cases y0.b <;> rfl
      have e8 : evE C (.cmp .isnot (.ix (.ix (.ix (.var 1) (.num 0)) (.ix (.var 5) (.num 0))) (.num 0)) .non) [some (.ref 3), some w.d, some (.ref q), some (.ref (4 + X.length)), some (.ref G), some (.ref (4 + Y.length)), some (.ref (4 + (Y.length + 1))), some (endD fe), x8, x9, x10] M3 = .ok (.v (.bl (!decide (y0.b = none)))) M3 := by
        rw [evE, fb0]
        simp only [evE, rbind_ok, isn, Option.map_some, ropt_some]
      have hpl := path_len p ok.wo
      have hb0 : ((row ++ [l]).map (bgn w.ws))[0]? = some y0.b := by rw [hk0, List.map_cons, eb0]; rfl
      -- the cut
      have tail : ∀ i j : Nat, fe ∈ (row ++ [l]).map (bgn w.ws) → ((endsD ((row ++ [l]).map (bgn w.ws))).findIdx? fun y => eqF y (endD fe)) = some i → j = (if fe = none then 0 else i) → ((row ++ [l]).map (bgn w.ws))[j]? = some fe →
          evE C (.sl (.var 5) (.some (.ix (.lst (.cons (.idx (.var 6) (.var 7)) (.cons (.num 0) .nil))) (.toint (.cmp .is (.var 7) .non)))) .none) [some (.ref 3), some w.d, some (.ref q), some (.ref (4 + X.length)), some (.ref G), some (.ref (4 + Y.length)), some (.ref (4 + (Y.length + 1))), some (endD fe), x8, x9, x10] M3 = .ok (.fl (intsD ((row ++ [l]).drop j))) M3 := by
        intro i j hm hi hj hat
        have hjl : j ≤ (intsD (row ++ [l])).length := by
          have := (List.getElem?_eq_some_iff.mp hat).1
          unfold intsD
          rw [List.length_map] at this ⊢
          omega
        have hfl : (endD fe).flat = true ∧ (endsD ((row ++ [l]).map (bgn w.ws))).all D.flat = true := ⟨end_flat _, List.all_eq_true.mpr fun d hd => by obtain ⟨x, _, rfl⟩ := List.mem_map.mp hd; exact end_flat x⟩
        have ei : evE C (.idx (.var 6) (.var 7)) [some (.ref 3), some w.d, some (.ref q), some (.ref (4 + X.length)), some (.ref G), some (.ref (4 + Y.length)), some (.ref (4 + (Y.length + 1))), some (endD fe), x8, x9, x10] M3 = .ok (.v (.int (i : Nat))) M3 := by
          have rq : recQ M3 (.v (.ref (4 + (Y.length + 1)))) = true := by simp only [recQ, recL, hseen, Bool.true_or]
          rw [evE]
          simp only [evE, List.getElem?_cons_succ, List.getElem?_cons_zero, rbind_ok, rq, asQ, asT, asL, hseen]
          rw [if_neg (by decide), if_pos hfl, hi]
        have ej : evE C (.ix (.lst (.cons (.idx (.var 6) (.var 7)) (.cons (.num 0) .nil))) (.toint (.cmp .is (.var 7) .non))) [some (.ref 3), some w.d, some (.ref q), some (.ref (4 + X.length)), some (.ref G), some (.ref (4 + Y.length)), some (.ref (4 + (Y.length + 1))), some (endD fe), x8, x9, x10] M3 = .ok (.v (.int (j : Nat))) M3 := by
          have e9 := e7 [some (.ref 3), some w.d, some (.ref q), some (.ref (4 + X.length)), some (.ref G), some (.ref (4 + Y.length)), some (.ref (4 + (Y.length + 1))), some (endD fe), x8, x9, x10] rfl
          have i0 : ixW M3 (.fl [.int (i : Nat), .int 0]) (.v (.int 0)) = some (.v (.int (i : Nat))) := rfl
          have i1 : ixW M3 (.fl [.int (i : Nat), .int 0]) (.v (.int 1)) = some (.v (.int 0)) := rfl
          have eL : evE C (.lst (.cons (.idx (.var 6) (.var 7)) (.cons (.num 0) .nil))) [some (.ref 3), some w.d, some (.ref q), some (.ref (4 + X.length)), some (.ref G), some (.ref (4 + Y.length)), some (.ref (4 + (Y.length + 1))), some (endD fe), x8, x9, x10] M3 = .ok (.fl [.int (i : Nat), .int 0]) M3 := by
            rw [evE, evEs, ei]
            simp only [evEs, evE, rbind_ok, Res.put, put]
          have e10 : evE C (.toint (.cmp .is (.var 7) .non)) [some (.ref 3), some w.d, some (.ref q), some (.ref (4 + X.length)), some (.ref G), some (.ref (4 + Y.length)), some (.ref (4 + (Y.length + 1))), some (endD fe), x8, x9, x10] M3 = .ok (.v (.int (if decide (fe = none) = true then 1 else 0))) M3 := by
            rw [evE, e9]; rfl
          rw [evE, eL, rbind_ok, e10, rbind_ok]
          by_cases hfn : fe = none
          · rw [if_pos hfn] at hj
            subst hj
            simp only [hfn, decide_true, if_true, i1, ropt_some]
            rfl
          · rw [if_neg hfn] at hj
            subst hj
            simp only [hfn, decide_false, Bool.false_eq_true, if_false, i0, ropt_some]
        rw [evE]
        simp only [evE, List.getElem?_cons_succ, List.getElem?_cons_zero, rbind_ok]
        rw [evO, ej]
        simp only [rbind_ok, toI, Option.map_some, ropt_some, evO, slW, asT, asL, hrow3, cut_from hjl]
        unfold intsD
        rw [List.map_drop]
      by_cases hfn : fe = none
      · rw [decide_eq_true hfn]
        simp only [Bool.true_eq_false, if_false]
        rw [e8]
        simp only [rbind_ok, toB, Option.map_some, ropt_some]
        by_cases h0 : y0.b = none
        · rw [decide_eq_true h0]
          refine .ret ⟨false, rfl, ?_⟩
          rw [if_neg (by decide), nil_nx]
          refine .ret ?_
          simp only
          have hat : ((row ++ [l]).map (bgn w.ws))[0]? = some fe := by rw [hb0, h0, hfn]
          have hmem := List.mem_of_getElem? hat
          obtain ⟨i, f1, f2⟩ := find_end hmem
          rw [cons_rt (ret_eq (tail i 0 hmem f1 (by rw [if_pos hfn]) hat))]
          exact .ret (out _ (by omega) (.inr (p.close (l := l) (by simp) (by rw [hfe]; exact hat))) h8)
        · rw [decide_eq_false h0]
          refine .ret ⟨true, rfl, ?_⟩
          rw [if_pos rfl, cons_rt (ret_eq (w := .fl []) (M1 := M3) (by simp only [evE, evEs, rbind_ok]))]
          exact .ret (out [] (by omega) (.inl rfl) h8)
      · rw [decide_eq_false hfn]
        simp only [if_true]
        refine .ret ⟨false, rfl, ?_⟩
        rw [if_neg (by decide), nil_nx]
        refine .ret ?_
        simp only
        have hmem : fe ∈ (row ++ [l]).map (bgn w.ws) := by
          rcases List.mem_append.mp hin with z | z
          · exact z
          · exact absurd (List.mem_singleton.mp z) hfn
        obtain ⟨i, f1, f2⟩ := find_end hmem
        rw [cons_rt (ret_eq (tail i i hmem f1 (by rw [if_neg hfn]) f2))]
        exact .ret (out _ (by omega) (.inr (p.close (l := l) (by simp) (by rw [hfe]; exact f2))) h8)
end
end Ev

/-! EvS6: streams. -/
namespace Ev
open PySem
/-- what a side of a house bears -/
def side (ws : List Way) (bs : List Int) (sd : Nat) (o : Option Nat) : Int := (((List.range ws.length).filter fun k => decide ((ws[k]?.map (Way.side sd)) = some o)).map fun k => (bs[k]?).getD 0).sum
structure Strm (ws : List Way) (bs : List Int) : Prop where
  len : bs.length = ws.length
  lo : ∀ (k : Nat) (b : Int), bs[k]? = some b → 0 ≤ b
  hi : ∀ (k : Nat) (b : Int) (y : Way), bs[k]? = some b → ws[k]? = some y → b ≤ y.r
  even : ∀ h : Nat, side ws bs 1 (some h) = side ws bs 0 (some h)
/-- many more on these roads -/
def more (bs : List Int) (row : List Nat) (m : Int) : List Int := bs.zipIdx.map fun p => p.1 + (if p.2 ∈ row then m else 0)
theorem more_len (bs : List Int) (row : List Nat) (m : Int) : (more bs row m).length = bs.length := by unfold more; rw [List.length_map, List.length_zipIdx]
theorem more_get (bs : List Int) (row : List Nat) (m : Int) (k : Nat) : (more bs row m)[k]? = (bs[k]?).map fun b => b + (if k ∈ row then m else 0) := by
  unfold more
  rw [List.getElem?_map, List.getElem?_zipIdx]
  cases bs[k]? <;> simp
theorem more_nil (bs : List Int) (m : Int) : more bs [] m = bs := by
  apply List.ext_getElem?
  intro k
  rw [more_get]
  cases bs[k]? <;> simp
/-- one road more -/
theorem more_cons (bs : List Int) (row : List Nat) (k : Nat) (m b : Int) (hk : k ∉ row) (hb : (more bs row m)[k]? = some b) : (more bs row m).set k (b + m) = more bs (row ++ [k]) m := by
  apply List.ext_getElem?
  intro j
  rw [List.getElem?_set, more_get, more_len]
  rw [more_get] at hb
  by_cases hj : k = j
  · subst hj
    have hl : k < bs.length := by
      cases e : bs[k]? with
      | none => rw [e] at hb; cases hb
      | some x => exact (List.getElem?_eq_some_iff.mp e).1
    rw [if_pos rfl, if_pos hl]
    cases e : bs[k]? with
    | none => rw [e] at hb; cases hb
    | some x =>
      rw [e] at hb
      rw [if_neg hk] at hb
      have hb : x + 0 = b := Option.some.inj hb
      rw [more_get, e, Option.map_some, if_pos (List.mem_append_right _ (List.mem_singleton.mpr rfl))]
      congr 1
      omega
  · rw [if_neg hj, more_get]
    have : ¬ j = k := fun z => hj z.symm
    simp [this]
theorem sum_add (f g : Nat → Int) : ∀ l : List Nat, (l.map fun k => f k + g k).sum = (l.map f).sum + (l.map g).sum
  | [] => rfl
  | a :: r => by
    rw [List.map_cons, List.map_cons, List.map_cons, List.sum_cons, List.sum_cons, List.sum_cons, sum_add f g r]
    omega
/-- how often, as a sum -/
theorem sum_ite (p q : Nat → Bool) (m : Int) : ∀ l : List Nat, ((l.filter p).map fun k => if q k = true then m else 0).sum = m * ((l.filter fun k => p k && q k).length : Int)
  | [] => by simp
  | a :: r => by
    have ih := sum_ite p q m r
    rw [List.filter_cons, List.filter_cons]
    cases p a <;> cases h : q a <;> simp [ih, h, Int.mul_add, Int.add_comm]
theorem cnt {row : List Nat} {n : Nat} (nd : row.Nodup) (hr : ∀ k ∈ row, k < n) (p : Nat → Bool) : ((List.range n).filter fun k => p k && decide (k ∈ row)).length = (row.filter p).length := by
  refine Nat.le_antisymm (nodup_len (List.nodup_range.filter _) fun x hx => ?_) (nodup_len (nd.filter _) fun x hx => ?_)
  · rw [List.mem_filter, Bool.and_eq_true, decide_eq_true_eq] at hx
    exact List.mem_filter.mpr ⟨hx.2.2, hx.2.1⟩
  · rw [List.mem_filter] at hx
    rw [List.mem_filter, Bool.and_eq_true, decide_eq_true_eq, List.mem_range]
    exact ⟨hr x hx.1, hx.2, hx.1⟩
theorem side_more {ws : List Way} {bs : List Int} {row : List Nat} {m : Int} {sd : Nat} {o : Option Nat} (hl : bs.length = ws.length) (nd : row.Nodup) (hr : ∀ k ∈ row, k < ws.length) :
    side ws (more bs row m) sd o = side ws bs sd o + m * ((row.filter fun k => decide ((ws[k]?.map (Way.side sd)) = some o)).length : Int) := by
  unfold side
  have e : ∀ k ∈ (List.range ws.length).filter (fun k => decide ((ws[k]?.map (Way.side sd)) = some o)), ((more bs row m)[k]?).getD 0 = (bs[k]?).getD 0 + (if (fun k => decide (k ∈ row)) k = true then m else 0) := by
    intro k hk
    have hk := List.mem_range.mp (List.mem_filter.mp hk).1
    rw [more_get, List.getElem?_eq_getElem (by omega)]
    simp
  rw [List.map_congr_left e, sum_add, sum_ite, cnt nd hr]
theorem count_filter {α : Type} [DecidableEq α] (f : Nat → α) (o : α) : ∀ l : List Nat, (l.filter fun k => decide (f k = o)).length = ((l.map f).filter fun x => decide (x = o)).length
  | [] => rfl
  | a :: r => by
    have ih := count_filter f o r
    rw [List.filter_cons, List.map_cons, List.filter_cons]
    by_cases h : f a = o
    · simp [h, ih]
    · simp [h, ih]
theorem Ring.rows {ws : List Way} {bs : List Int} {row : List Nat} (r : Ring ws bs row) : row.Nodup ∧ ∀ k ∈ row, k < ws.length := by
  refine ⟨?_, fun k hk => ?_⟩
  · have z := r.nd
    unfold List.Nodup at z ⊢
    rw [List.pairwise_map] at z
    exact z.imp fun h e => h (by rw [e])
  · obtain ⟨y, x, e, _, _⟩ := r.lit k hk
    exact (List.getElem?_eq_some_iff.mp e).1
theorem Strm.more {ws : List Way} {bs : List Int} {row : List Nat} {m : Int} (h : Strm ws bs) (r : Ring ws bs row) (h0 : 0 ≤ m) (hm : ∀ (k : Nat) (b : Int) (y : Way), k ∈ row → bs[k]? = some b → ws[k]? = some y → m ≤ y.r - b) : Strm ws (Ev.more bs row m) := by
  obtain ⟨nd, hr⟩ := r.rows
  refine ⟨by rw [more_len]; exact h.len, fun k b hb => ?_, fun k b y hb hy => ?_, fun hh => ?_⟩
  · rw [more_get] at hb
    obtain ⟨x, e, rfl⟩ := Option.map_eq_some_iff.mp hb
    have := h.lo k x e
    split <;> omega
  · rw [more_get] at hb
    obtain ⟨x, e, rfl⟩ := Option.map_eq_some_iff.mp hb
    have a := h.hi k x y e hy
    split
    · rename_i c
      have := hm k x y c e hy
      omega
    · omega
  · rw [side_more h.len nd hr, side_more h.len nd hr, h.even hh]
    congr 2
    have f : ∀ sd (g : Nat → Option Nat), (∀ k ∈ row, ws[k]?.map (Way.side sd) = some (g k)) → (row.filter fun k => decide ((ws[k]?.map (Way.side sd)) = some (some hh))) = row.filter fun k => decide (g k = some hh) := by
      intro sd g hg
      refine List.filter_congr fun k hk => ?_
      rw [hg k hk]
      simp
    rw [f 1 (fin ws) (fun k hk => by obtain ⟨y, e1, _, e3⟩ := lit_at (r.lit k hk); rw [e1, e3]; rfl), f 0 (bgn ws) (fun k hk => by obtain ⟨y, e1, e2, _⟩ := lit_at (r.lit k hk); rw [e1, e2]; rfl), count_filter, count_filter, (r.turn.filter _).length_eq]
theorem Strm.zero {ws : List Way} {n : Nat} (ok : ∀ y ∈ ws, y.Ok n) : Strm ws (List.replicate ws.length 0) := by
  refine ⟨List.length_replicate, fun k b hb => ?_, fun k b y hb hy => ?_, fun h => ?_⟩
  · rw [List.getElem?_replicate] at hb
    split at hb
    · cases hb; omega
    · cases hb
  · rw [List.getElem?_replicate] at hb
    split at hb
    · cases hb; exact (ok y (List.mem_of_getElem? hy)).r0
    · cases hb
  · have z : ∀ sd o, side ws (List.replicate ws.length 0) sd o = 0 := by
      intro sd o
      unfold side
      have e : ∀ k ∈ (List.range ws.length).filter (fun k => decide ((ws[k]?.map (Way.side sd)) = some o)), ((List.replicate ws.length (0 : Int))[k]?).getD 0 = 0 := by
        intro k _
        rw [List.getElem?_replicate]
        split <;> rfl
      rw [List.map_congr_left e]
      induction ((List.range ws.length).filter (fun k => decide ((ws[k]?.map (Way.side sd)) = some o))) with
      | nil => rfl
      | cons a r ih => rw [List.map_cons, List.sum_cons, ih]; rfl
    rw [z, z]
end Ev

/-! EvS7: a stream is made. -/
namespace Ev
open PySem
def streamB (n o r : Nat) : Ss := (.cons (.asg (.nm 3) (.bop .mul (.lst (.cons (.num 0) .nil)) (.len (.ix (.var 1) (.num 0)))))
  (.cons (.for_ (.nm 4) (.rng1 (.var 2))
  (.cons (.asg (.nm 5) (.call r (.cons (.var 0) (.cons (.var 1) (.cons (.var 3) .nil)))))
  (.cons (.ife (.cmp .ne (.var 5) (.lst .nil))
  (.cons (.asg (.nm 6) (.bi .min (.val (.comp (.bop .sub (.ix (.ix (.ix (.var 1) (.num 0)) (.var 8)) (.num 2)) (.ix (.var 3) (.var 8))) (.nm 8) (.val (.var 5)) .none [8]))))
  (.cons (.asg (.nm 7) (.call o (.cons (.var 0) (.cons (.lst (.cons (.num 1) (.cons (.var 6) (.cons (.bop .add (.num 1) (.call n (.cons (.var 0) (.cons (.var 6) .nil)))) .nil)))) .nil))))
  (.cons (.for_ (.nm 8) (.val (.var 5))
  (.cons (.setix (.var 3) (.var 8) (.bop .add (.ix (.var 3) (.var 8)) (.var 7)))
  .nil))
  .nil)))
  .nil)
  .nil)))
  (.cons (.ret (.bi .tuple (.val (.var 3))))
  .nil)))
def Rn (C : Cl) (f : Nat) : Prop := ∀ {hs rs B q : Nat} {X M : Mem} {w : Web} {bs : List Int}, w.Ok hs rs → hs ≤ 100 → rs ≤ 100 → bs.length = w.ws.length → B + 2000 < 2 ^ 60 → Dk B X M → LstAt X q (bs.map .int) →
  Ok (C.call f [.ref 3, w.d, .ref q] M) fun x M' => ∃ row : List Nat, x = .fl (intsD row) ∧ (row = [] ∨ Ring w.ws bs row) ∧ Dk (B + 200) X M'
section
variable {C : Cl} {n o r : Nat} {B : Nat} {X M : Mem} {w : Web}
/-- the loop that lays many on every road of the row -/
theorem lay_ok {bs : List Int} {row : List Nat} {m : Int} {A Z : Mem} {s : Env} {R : Nat} (h3 : s[3]? = some (some (.ref (4 + A.length)))) (h5 : s[5]? = some (some (.ref R))) (h7 : s[7]? = some (some (.int m))) (hl : s.length = 9) (nd : row.Nodup) (hr : ∀ k ∈ row, k < bs.length)
    (aR : ∀ l : List D, LstAt (A ++ .lst l :: Z) R (intsD row)) (h : Dk B (A ++ .lst (bs.map .int) :: Z) M) :
    Ok (evS C (.for_ (.nm 8) (.val (.var 5)) (.cons (.setix (.var 3) (.var 8) (.bop .add (.ix (.var 3) (.var 8)) (.var 7))) .nil)) s M) fun f M' => ∃ x, f = .nx (s.set 8 x) ∧ Dk B (A ++ .lst ((more bs row m).map .int) :: Z) M' := by
  have hR := (aR _).get h
  refine Ok.for ?_
  simp only [evI, evE, h5, rbind_ok, asQ, asT, asL, hR, Option.map_some, ropt_some, srcs]
  refine .ret ?_
  refine forL_ok (fun i s1 M1 => ∃ x : Option D, s1 = s.set 8 x ∧ Dk B (A ++ .lst ((more bs (row.take i) m).map .int) :: Z) M1) ?_ ?_ ⟨s[8]'(by omega), by simp, by simpa [more_nil] using h⟩
  · rintro i d s1 M1 hd ⟨x, rfl, h1⟩
    obtain ⟨k, hk, rfl⟩ := at_map (f := fun k : Nat => D.int (k : Nat)) hd
    have hkm := List.mem_of_getElem? hk
    have hnot : k ∉ row.take i := fun z => by
      obtain ⟨j, hj, ej⟩ := List.getElem_of_mem z
      rw [List.getElem_take] at ej
      rw [List.length_take] at hj
      have e1 : row[j]? = some k := by rw [List.getElem?_eq_getElem (by omega), ej]
      obtain ⟨a1, b1⟩ := List.getElem?_eq_some_iff.mp e1
      obtain ⟨a2, b2⟩ := List.getElem?_eq_some_iff.mp hk
      have := (List.getElem_inj nd).mp (b1.trans b2.symm)
      omega
    have hkl : k < (more bs (row.take i) m).length := by rw [more_len]; exact hr k hkm
    obtain ⟨b, hb⟩ : ∃ b, (more bs (row.take i) m)[k]? = some b := ⟨_, List.getElem?_eq_getElem hkl⟩
    have f : ∀ j, j ≠ 8 → (s.set 8 (some (D.int (k : Nat))))[j]? = s[j]? := fun j hj => List.getElem?_set_ne (Ne.symm hj)
    have f8 : (s.set 8 (some (D.int (k : Nat))))[8]? = some (some (.int (k : Nat))) := List.getElem?_set_self (by omega)
    have hA : M1[4 + A.length]? = some (.lst ((more bs (row.take i) m).map .int)) := h1.mid
    have ixb : ixW M1 (.v (.ref (4 + A.length))) (.v (.int (k : Nat))) = some (.v (.int b)) := ixM hA (by rw [List.getElem?_map, hb]; rfl)
    have sq : seqIx ((more bs (row.take i) m).map D.int).length (k : Int) = some k := by
      unfold seqIx L2.ixN
      rw [List.length_map, if_pos (by omega), if_pos (by omega)]
      rfl
    simp only [asgT, List.set_set]
    refine Ok.cons ?_
    simp only [evS, evE, f 3 (by decide), f 7 (by decide), f8, h3, h7, rbind_ok, ixb, ropt_some, opW, Res.put, put, hA, sq]
    refine .ret (Ok.nil ?_)
    have h2 := h1.setMid (.lst ((more bs (row.take (i + 1)) m).map .int))
    have e : ((more bs (row.take i) m).map D.int).set k (.int (b + m)) = (more bs (row.take (i + 1)) m).map .int := by
      rw [← List.map_set, more_cons bs (row.take i) k m b hnot hb, List.take_succ, hk]
      rfl
    rw [e]
    exact ⟨fun p hp => by rw [List.mem_singleton.mp hp]; exact (aR _).get h2, some (.int (k : Nat)), rfl, h2⟩
  · rintro s1 M1 ⟨x, rfl, h1⟩
    unfold intsD at h1
    rw [List.length_map, List.take_length] at h1
    exact ⟨x, rfl, h1⟩
theorem len_ev {s : Env} (h1 : s[1]? = some (some w.d)) : evE C (.len (.ix (.var 1) (.num 0))) s M = .ok (.v (.int (w.ws.length : Nat))) M := by
  simp only [evE, h1, rbind_ok, ix0, ropt_some, lenW, asQ, asT, List.length_map, Option.map_some]
theorem mul_ok {l : List D} {n : Nat} (M : Mem) (hn : n ≤ 1000) (h : l.length * n ≤ 1000) : opW .mul M (.fl l) (.v (.int (n : Nat))) = some (.fl (List.replicate n l).flatten) := by
  have z := mulL (l := l) (k := (n : Int)) M ⟨Int.natCast_nonneg _, by omega, by rw [Int.toNat_natCast]; omega⟩
  rwa [Int.toNat_natCast] at z
theorem zeros_ev {s : Env} (h1 : s[1]? = some (some w.d)) (hz : w.ws.length ≤ 1000) : evE C (.bop .mul (.lst (.cons (.num 0) .nil)) (.len (.ix (.var 1) (.num 0)))) s M = .ok (.fl ((List.replicate w.ws.length (0 : Int)).map .int)) M := by
  have eL : evE C (.lst (.cons (.num 0) .nil)) s M = .ok (.fl [.int 0]) M := by simp only [evE, evEs, rbind_ok, Res.put, put]
  rw [evE, eL, rbind_ok, len_ev h1, rbind_ok, mul_ok M hz (by rw [List.length_singleton]; omega), ropt_some, flat1, List.map_replicate]
/-- a turn: a way round, and as much on it as it bears, or less -/
theorem stream_ok (hn : Nx C n) (ho : One C o) (hr : Rn C r) {hs rs : Nat} (ok : w.Ok hs rs) (hh : hs ≤ 100) (hrs : rs ≤ 100) {m : Nat} (hm : m ≤ 1000) (hB : B + 1000000 < 2 ^ 60) (h : Dk B X M) :
    Ok (runB C ⟨3, 9, streamB n o r⟩ [.ref 3, w.d, .int m] M) fun x M' => ∃ bs : List Int, x = .v (.tup (bs.map .int)) ∧ Strm w.ws bs ∧ Dk (B + 300000) X M' := by
  refine runB_ok rfl ?_
  show Ok (evSs C (streamB n o r) [some (.ref 3), some w.d, some (.int m), none, none, none, none, none, none] M) _
  have hm1 := ok.m1
  have hm2 := ok.m2
  unfold streamB
  refine Ok.cons (Ok.asg ?_)
  have e0 := zeros_ev (C := C) (M := M) (s := [some (.ref 3), some w.d, some (.int m), none, none, none, none, none, none]) (w := w) rfl (by omega)
  rw [e0]
  refine .ret ?_
  simp only [put, List.set]
  have h1 := h.push (.lst ((List.replicate w.ws.length (0 : Int)).map .int))
  rw [h.len]
  refine Ok.cons (Ok.for (rng1_okE ?_))
  simp only [evE, List.getElem?_cons_succ, List.getElem?_cons_zero]
  refine .ret ⟨m, rfl, hm, ?_⟩
  refine forL_ok (fun i s M1 => ∃ (x4 x5 x6 x7 x8 : Option D) (bs : List Int) (Z : Mem), s = [some (.ref 3), some w.d, some (.int m), some (.ref (4 + X.length)), x4, x5, x6, x7, x8] ∧ Strm w.ws bs ∧ Dk (B + i * 300) (X ++ .lst (bs.map .int) :: Z) M1) ?_ ?_ ⟨none, none, none, none, none, _, [], rfl, .zero ok.wo, by simpa using h1⟩
  · rintro i d s M1 hd ⟨x4, x5, x6, x7, x8, bs, Z, rfl, st, h2⟩
    obtain ⟨rfl, hi⟩ := rng_at hd
    have hi3 : i * 300 ≤ m * 300 := Nat.mul_le_mul_right _ (by omega)
    simp only [asgT, List.set]
    refine Ok.cons (Ok.asg (Ok.call ?_))
    simp only [evEs, evE, List.getElem?_cons_succ, List.getElem?_cons_zero, rbind_ok, Res.put, put]
    refine .ret ((hr ok hh hrs st.len (by omega) h2 (LstAt.mid rfl)).mono fun x M2 ⟨row, e, hrow, h3⟩ => ?_)
    subst e
    simp only [put, List.set]
    have h4 := h3.push (.lst (intsD row))
    have eR : M2.length = 4 + (X ++ .lst (bs.map .int) :: Z).length := h3.len
    have hR : (M2 ++ [O.lst (intsD row)])[M2.length]? = some (.lst (intsD row)) := by rw [List.getElem?_append_right (Nat.le_refl _), Nat.sub_self]; rfl
    have ec : evE C (.cmp .ne (.var 5) (.lst .nil)) [some (.ref 3), some w.d, some (.int m), some (.ref (4 + X.length)), some (.int (i : Nat)), some (.ref M2.length), x6, x7, x8] (M2 ++ [O.lst (intsD row)]) = .ok (.v (.bl (!decide (row = [])))) (M2 ++ [O.lst (intsD row)]) := by
      simp only [evE, evEs, List.getElem?_cons_succ, List.getElem?_cons_zero, rbind_ok, cmpW, eq_nil hR, Option.map_some, ropt_some]
    refine Ok.cons (Ok.ife ?_)
    rw [ec]
    refine .ret ⟨_, rfl, ?_⟩
    have h4' : Dk (B + i * 300 + 200) (X ++ .lst (bs.map .int) :: (Z ++ [.lst (intsD row)])) (M2 ++ [O.lst (intsD row)]) := by simpa using h4
    by_cases hre : row = []
    · rw [if_neg (by simp [hre]), nil_nx]
      exact .ret (Ok.nil ⟨srcNil _, _, _, _, _, _, bs, _, rfl, st, h4'.mono (by omega)⟩)
    · rw [if_pos (by simp [hre])]
      have ring : Ring w.ws bs row := hrow.resolve_left hre
      have hg : ∀ k ∈ row, k < w.ws.length ∧ 1 ≤ (wy w.ws k).r - nb bs k := fun k hk => by
        obtain ⟨y, x, e1, e2, e3⟩ := ring.lit k hk
        rw [wy_of e1, nb_of e2]
        exact ⟨(List.getElem?_eq_some_iff.mp e1).1, by omega⟩
      have hst := st.len
      have eM : evE C (.comp (.bop .sub (.ix (.ix (.ix (.var 1) (.num 0)) (.var 8)) (.num 2)) (.ix (.var 3) (.var 8))) (.nm 8) (.val (.var 5)) .none [8]) [some (.ref 3), some w.d, some (.int m), some (.ref (4 + X.length)), some (.int (i : Nat)), some (.ref M2.length), x6, x7, x8] (M2 ++ [O.lst (intsD row)]) = .ok (.fl ((row.map fun k => (wy w.ws k).r - nb bs k).map .int)) (M2 ++ [O.lst (intsD row)]) := by
        have z := compM (C := C) (tg := .nm 8) (it := .val (.var 5)) (ws := [8]) (el := .bop .sub (.ix (.ix (.ix (.var 1) (.num 0)) (.var 8)) (.num 2)) (.ix (.var 3) (.var 8))) (s := [some (.ref 3), some w.d, some (.int m), some (.ref (4 + X.length)), some (.int (i : Nat)), some (.ref M2.length), x6, x7, x8]) (M := M2 ++ [O.lst (intsD row)]) (l := row) (a := fun k : Nat => D.int (k : Nat)) (fun k => D.int ((wy w.ws k).r - nb bs k)) (itL hR (by simp only [evE, List.getElem?_cons_succ, List.getElem?_cons_zero])) (src1 hR) (fun k hk => ⟨_, rfl, ?_⟩)
        · rw [z, List.map_map]; rfl
        · have hk1 := (hg k hk).1
          simp only [wipeE, List.set, evE, List.getElem?_cons_succ, List.getElem?_cons_zero, rbind_ok, web0, ropt_some, ixWy hk1, wyR, ixNbL (k := k) h4'.mid (by omega), subI]
      obtain ⟨mo, hmo, hmem, hmin⟩ := minI_some (l := row.map fun k => (wy w.ws k).r - nb bs k) (by simpa using hre)
      refine Ok.cons (Ok.asg ?_)
      rw [bMin hmo eM]
      refine .ret ?_
      simp only [put, List.set]
      have mo1 : 1 ≤ mo ∧ mo ≤ 10 ^ 12 := by
        obtain ⟨k, hk, e⟩ := List.mem_map.mp hmem
        obtain ⟨y, x, e1, e2, e3⟩ := ring.lit k hk
        have a1 := (ok.wo y (List.mem_of_getElem? e1)).r1
        have a2 := st.lo k x e2
        rw [wy_of e1, nb_of e2] at e
        omega
      refine Ok.cons (Ok.asg (Ok.call ?_))
      simp only [evEs, evE, List.getElem?_cons_succ, List.getElem?_cons_zero, rbind_ok, Res.put, put]
      simp only [rbind_assoc]
      refine (hn (many := mo) (by omega) (by omega) (by omega) h4').bind fun u M3 ⟨v, e, v0, v1, h5⟩ => ?_
      subst e
      simp only [rbind_ok, addI, ropt_some, put]
      have h6 := h5.push (.lst [.int 1, .int mo, .int (1 + v)])
      refine .ret ((ho (q := M3.length) (l := [.int 1, .int mo, .int (1 + v)]) (by omega) h6 (LstAt.lastN h5.len) (by simp) (by simp) (by simp [D.pure])).mono fun u M4 ⟨d, e, hd, h7⟩ => ?_)
      subst e
      obtain ⟨mm, rfl, hm0, hmm⟩ : ∃ a : Int, d = .int a ∧ 1 ≤ a ∧ a ≤ mo := by
        simp at hd
        rcases hd with rfl | rfl | rfl
        · exact ⟨_, rfl, by omega, by omega⟩
        · exact ⟨_, rfl, by omega, by omega⟩
        · exact ⟨_, rfl, by omega, by omega⟩
      simp only [put, List.set]
      have h7' : Dk (B + i * 300 + 202) (X ++ .lst (bs.map .int) :: (Z ++ [.lst (intsD row), .lst [.int 1, .int mo, .int (1 + v)]])) M4 := by simpa using h7
      obtain ⟨nd, hrr⟩ := ring.rows
      have aR : ∀ l : List D, LstAt (X ++ .lst l :: (Z ++ [.lst (intsD row), .lst [.int 1, .int mo, .int (1 + v)]])) M2.length (intsD row) := fun l => by
        have e : X ++ O.lst l :: (Z ++ [.lst (intsD row), .lst [.int 1, .int mo, .int (1 + v)]]) = ((X ++ O.lst l :: Z) ++ [.lst (intsD row)]) ++ [.lst [.int 1, .int mo, .int (1 + v)]] := by simp
        rw [e]
        exact (LstAt.lastN (by rw [eR]; simp)).app
      refine Ok.cons ((lay_ok (s := [some (.ref 3), some w.d, some (.int m), some (.ref (4 + X.length)), some (.int (i : Nat)), some (.ref M2.length), some (.int mo), some (.int mm), x8]) (bs := bs) (row := row) (m := mm) rfl rfl rfl rfl nd (fun k hk => by have := hrr k hk; omega) aR h7').mono fun f M5 ⟨x, e, h8⟩ => ?_)
      subst e
      refine Ok.nil (Ok.nil ⟨srcNil _, _, _, _, _, x, _, _, rfl, st.more ring (by omega) ?_, h8.mono (by omega)⟩)
      intro k b y hk hb hy
      have a1 := hmin _ (List.mem_map.mpr ⟨k, hk, rfl⟩)
      simp only [wy_of hy, nb_of hb] at a1
      omega
  · rintro s M1 ⟨x4, x5, x6, x7, x8, bs, Z, rfl, st, h2⟩
    rw [rng_len] at h2
    have hm3 : m * 300 ≤ 1000 * 300 := Nat.mul_le_mul_right _ hm
    refine Ok.cons (Ok.rtn ?_)
    have hA : M1[4 + X.length]? = some (.lst (bs.map .int)) := h2.mid
    simp only [evE, List.getElem?_cons_succ, List.getElem?_cons_zero, rbind_ok, biV2, biT2, biV, biW, asQ, asT, asL, hA, true_or, if_true, Option.bind_some, ropt_some]
    refine .ret ?_
    exact h.leave h2 (by rw [D.pure]; exact pures_all fun d hd => by obtain ⟨x, _, rfl⟩ := List.mem_map.mp hd; rfl) fun M' q => ⟨bs, rfl, st, q.mono (by omega)⟩
end
end Ev

/-! EvG1: what is told of streams. -/
namespace Ev
open PySem
theorem Ok.eq {α : Type} {r : Res α} {a : α} {M : Mem} (h : Ok r fun b M' => b = a ∧ M' = M) : r = .ok a M := by
  obtain ⟨b, M', e, rfl, rfl⟩ := h
  exact e
theorem at_app {α : Type} {M : List α} {o : α} : (M ++ [o])[M.length]? = some o := by rw [List.getElem?_append_right (Nat.le_refl _), Nat.sub_self]; rfl
theorem set_app {α : Type} {M : List α} {o o' : α} : (M ++ [o]).set M.length o' = M ++ [o'] := by rw [List.set_append_right _ _ (Nat.le_refl _), Nat.sub_self]; rfl
theorem seqI {n k : Nat} (h : k < n) : seqIx n (k : Int) = some k := by
  unfold seqIx L2.ixN
  rw [if_pos (Int.natCast_nonneg _), if_pos (by omega)]
  rfl
theorem natI (k : Nat) : ¬ ((k : Int) < 0) := by omega
theorem at_range {α : Type} {n i : Nat} {f : Nat → α} {d : α} (h : ((List.range n).map f)[i]? = some d) : d = f i ∧ i < n := by
  rw [List.getElem?_map] at h
  obtain ⟨k, e, rfl⟩ := Option.map_eq_some_iff.mp h
  obtain ⟨hk, e2⟩ := List.getElem?_eq_some_iff.mp e
  rw [List.getElem_range] at e2
  rw [List.length_range] at hk
  subst e2
  exact ⟨rfl, hk⟩
theorem Web.Ok.h0 {hs rs : Nat} {w : Web} (ok : w.Ok hs rs) : w.o0.length = w.n := ok.p0.1
theorem Web.Ok.h1 {hs rs : Nat} {w : Web} (ok : w.Ok hs rs) : w.o1.length = w.n := ok.p1.1
theorem Web.Ok.way {hs rs : Nat} {w : Web} (ok : w.Ok hs rs) {k : Nat} (h : k < w.ws.length) : (wy w.ws k).Ok w.n := ok.wo _ (wy_mem h)
theorem Way.Ok.side {n : Nat} {y : Way} (h : y.Ok n) (sd k : Nat) (e : y.side sd = some k) : k < n := by
  unfold Way.side at e
  split at e
  · exact h.b0 k e
  · exact h.e0 k e
theorem range_rep {α : Type} (n : Nat) (a : α) : (List.range n).map (fun _ => a) = List.replicate n a := by
  apply List.ext_getElem?
  intro j
  rw [List.getElem?_map, List.getElem?_replicate]
  by_cases hj : j < n
  · rw [if_pos hj, List.getElem?_range hj]; rfl
  · rw [if_neg hj, List.getElem?_eq_none (by simpa using hj)]; rfl
theorem range_set {α : Type} {n h : Nat} {f g : Nat → α} {v : α} (hn : h < n) (e : g h = v) (e2 : ∀ j, j ≠ h → g j = f j) : ((List.range n).map f).set h v = (List.range n).map g := by
  apply List.ext_getElem?
  intro j
  rw [List.getElem?_set, List.length_map, List.length_range, List.getElem?_map, List.getElem?_map]
  by_cases hj : h = j
  · subst hj
    rw [if_pos rfl, if_pos hn, List.getElem?_range hn, Option.map_some, e]
  · rw [if_neg hj]
    by_cases hl : j < n
    · rw [List.getElem?_range hl, Option.map_some, Option.map_some, e2 j (Ne.symm hj)]
    · rw [List.getElem?_eq_none (by simpa using hl)]; rfl
/-! ### sums -/
def sumAt (ws : List Way) (bs : List Int) (sd : Nat) (o : Option Nat) : Int := (((List.range ws.length).filter fun k => decide ((wy ws k).side sd = o)).map (nb bs)).sum
def sumTo (ws : List Way) (bs : List Int) (sd : Nat) (i : Nat) (o : Option Nat) : Int := (((List.range i).filter fun k => decide ((wy ws k).side sd = o)).map (nb bs)).sum
theorem sumTo_succ (ws : List Way) (bs : List Int) (sd i : Nat) (o : Option Nat) : sumTo ws bs sd (i + 1) o = sumTo ws bs sd i o + (if (wy ws i).side sd = o then nb bs i else 0) := by
  unfold sumTo
  rw [List.range_succ, List.filter_append, List.map_append, List.sum_append]
  by_cases h : (wy ws i).side sd = o <;> simp [h]
def sumsL (w : Web) (bs : List Int) (sd : Nat) : List Int := (List.range w.n).map fun h => sumAt w.ws bs sd (some h)
def houses_ofB : Ss := (.cons (.ret (.len (.ix (.var 0) (.num 1))))
  .nil)
def sumsB (f_houses_of : Nat) : Ss := (.cons (.asg (.nm 3) (.bop .mul (.lst (.cons (.num 0) .nil)) (.call f_houses_of (.cons (.var 0) .nil))))
  (.cons (.for_ (.tp (.cons (.nm 4) (.cons (.nm 5) .nil))) (.zip2 (.ix (.var 0) (.num 0)) (.var 1))
  (.cons (.ife (.cmp .isnot (.ix (.var 4) (.var 2)) .non)
  (.cons (.augix .add (.var 3) (.ix (.var 4) (.var 2)) (.var 5))
  .nil)
  .nil)
  .nil))
  (.cons (.ret (.bi .tuple (.val (.var 3))))
  .nil)))
def nothingB : Ss := (.cons (.ret (.bop .mul (.tup (.cons (.num 0) .nil)) (.len (.ix (.var 0) (.num 0)))))
  .nil)
def throughB (f_sums : Nat) : Ss := (.cons (.ret (.call f_sums (.cons (.var 0) (.cons (.var 1) (.cons (.num 1) .nil)))))
  .nil)
def worthB (f_in_doors : Nat) : Ss := (.cons (.ret (.bi .sum (.val (.comp (.ix (.var 1) (.var 2)) (.nm 2) (.val (.call f_in_doors (.cons (.var 0) .nil))) .none [2]))))
  .nil)
def at_doorsB (f_doors : Nat) : Ss := (.cons (.ret (.bi .tuple (.val (.comp (.tup (.cons (.var 2) (.cons (.ix (.var 1) (.var 2)) .nil))) (.nm 2) (.val (.call f_doors (.cons (.var 0) .nil))) .none [2]))))
  .nil)
def l_sumB : Ss := (.cons (.ret (.bi .sum (.val (.comp (.ix (.var 1) (.var 4)) (.nm 4) (.rng1 (.len (.ix (.var 0) (.num 0)))) (.some (.cmp .eq (.ix (.ix (.ix (.var 0) (.num 0)) (.var 4)) (.var 2)) (.var 3))) [4]))))
  .nil)
/-! ### what calls answer -/
section
variable (C : Cl) (f : Nat)
def IsHouses : Prop := ∀ {hs rs : Nat} {w : Web} (_ : w.Ok hs rs) (M : Mem), C.call f [w.d] M = .ok (.v (.int (w.n : Nat))) M
def IsSums : Prop := ∀ {hs rs : Nat} {w : Web} {bs : List Int} {sd : Nat} (_ : w.Ok hs rs) (_ : hs ≤ 100) (_ : rs ≤ 100) (_ : bs.length = w.ws.length) (_ : sd < 2) (M : Mem), C.call f [w.d, .tup (bs.map .int), .int sd] M = .ok (.v (.tup ((sumsL w bs sd).map .int))) M
def IsThrough : Prop := ∀ {hs rs : Nat} {w : Web} {bs : List Int} (_ : w.Ok hs rs) (_ : hs ≤ 100) (_ : rs ≤ 100) (_ : bs.length = w.ws.length) (M : Mem), C.call f [w.d, .tup (bs.map .int)] M = .ok (.v (.tup ((sumsL w bs 1).map .int))) M
def IsDoor (sd : Nat) : Prop := ∀ (w : Web) (M : Mem), C.call f [w.d] M = .ok (.v (.tup (intsD (door w.ws sd)))) M
def both (ws : List Way) : List Nat := (List.range ws.length).filter fun k => decide ((ws[k]?.map (Way.side 0)) = some none) || decide ((ws[k]?.map (Way.side 1)) = some none)
def IsDoors : Prop := ∀ {hs rs : Nat} {w : Web} (_ : w.Ok hs rs) (_ : rs ≤ 100) (M : Mem), C.call f [w.d] M = .ok (.v (.tup (intsD (both w.ws)))) M
def IsWorth : Prop := ∀ {w : Web} {bs : List Int} (_ : bs.length = w.ws.length) (M : Mem), C.call f [w.d, .tup (bs.map .int)] M = .ok (.v (.int (sumAt w.ws bs 0 none))) M
def IsNothing : Prop := ∀ {hs rs : Nat} {w : Web} (_ : w.Ok hs rs) (_ : rs ≤ 100) (M : Mem), C.call f [w.d] M = .ok (.v (.tup ((List.replicate w.ws.length 0).map .int))) M
def atD (bs : List Int) (k : Nat) : D := .tup [.int (k : Nat), .int (nb bs k)]
def IsAtDoors : Prop := ∀ {hs rs : Nat} {w : Web} {bs : List Int} (_ : w.Ok hs rs) (_ : rs ≤ 100) (_ : bs.length = w.ws.length) (M : Mem), C.call f [w.d, .tup (bs.map .int)] M = .ok (.v (.tup ((both w.ws).map (atD bs)))) M
def IsSum : Prop := ∀ {w : Web} {bs : List Int} {sd : Nat} (o : Option Nat) (_ : w.ws.length ≤ 100) (_ : bs.length = w.ws.length) (_ : sd < 2) (M : Mem), C.call f [w.d, .tup (bs.map .int), .int sd, endD o] M = .ok (.v (.int (sumAt w.ws bs sd o))) M
end
section
variable {C : Cl} {M : Mem} {w : Web} {bs : List Int} {sd hs rs f : Nat}
theorem houses_of_ok (ok : w.Ok hs rs) : runB C ⟨1, 1, houses_ofB⟩ [w.d] M = .ok (.v (.int (w.n : Nat))) M := by
  refine runB_pure rfl (cons_rt (ret_eq ?_)) rfl
  show evE C _ [some w.d] M = _
  simp only [evE, List.getElem?_cons_zero, rbind_ok, web1, ropt_some, lenT, List.length_map, Option.map_some, ok.h0]
theorem sums_e0 {s : Env} (hc : IsHouses C f) (ok : w.Ok hs rs) (hn : w.n ≤ 1000) (h0 : s[0]? = some (some w.d)) : evE C (.bop .mul (.lst (.cons (.num 0) .nil)) (.call f (.cons (.var 0) .nil))) s M = .ok (.fl (List.replicate w.n (.int 0))) M := by
  have eL : evE C (.lst (.cons (.num 0) .nil)) s M = .ok (.fl [.int 0]) M := by simp only [evE, evEs, rbind_ok, Res.put, put]
  have eC : evE C (.call f (.cons (.var 0) .nil)) s M = .ok (.v (.int (w.n : Nat))) M := by
    simp only [evE, evEs, h0, rbind_ok, Res.put, put]; exact hc ok M
  rw [evE, eL, rbind_ok, eC, rbind_ok, mulF M hn, ropt_some]
theorem sums_ok (hc : IsHouses C f) (ok : w.Ok hs rs) (hh : hs ≤ 100) (hr : rs ≤ 100) (hb : bs.length = w.ws.length) (hsd : sd < 2) :
    runB C ⟨3, 6, sumsB f⟩ [w.d, .tup (bs.map .int), .int sd] M = .ok (.v (.tup ((sumsL w bs sd).map .int))) M := by
  have hn := ok.n2
  have hm := ok.m2
  have main : Ok (evSs C (sumsB f) [some w.d, some (.tup (bs.map .int)), some (.int sd), none, none, none] M) fun fl M' => fl = .rt (.v (.tup ((sumsL w bs sd).map .int))) ∧ M' = M ++ [.lst ((sumsL w bs sd).map .int)] := by
    unfold sumsB
    refine Ok.cons (Ok.asg ?_)
    rw [sums_e0 hc ok (by omega) rfl]
    refine .ret ?_
    simp only [put, List.set]
    refine Ok.cons (Ok.for ?_)
    have ei : evI C (.zip2 (.ix (.var 0) (.num 0)) (.var 1)) [some w.d, some (.tup (bs.map .int)), some (.int sd), some (.ref M.length), none, none] (M ++ [.lst (List.replicate w.n (.int 0))]) = .ok ((List.range w.ws.length).map fun k => .tup [(wy w.ws k).d, .int (nb bs k)], []) (M ++ [.lst (List.replicate w.n (.int 0))]) := by
      rw [itZ (l := w.ws.map Way.d) (r := bs.map .int) (by simp [hb]) (by simp only [evE, List.getElem?_cons_zero, rbind_ok, web0, ropt_some]) (by simp only [evE, List.getElem?_cons_zero, List.getElem?_cons_succ])]
      congr 2
      rw [List.length_map]
      refine List.map_congr_left fun k hk => ?_
      have hk := List.mem_range.mp hk
      rw [wyD hk, nbD (by omega)]
    rw [ei]
    refine .ret ?_
    refine forL_ok (fun i s M1 => ∃ x y : Option D, s = [some w.d, some (.tup (bs.map .int)), some (.int sd), some (.ref M.length), x, y] ∧ M1 = M ++ [.lst (((List.range w.n).map fun h => sumTo w.ws bs sd i (some h)).map .int)]) ?_ ?_ ⟨none, none, rfl, ?_⟩
    · rintro i d s M1 hd ⟨x, y, rfl, rfl⟩
      obtain ⟨rfl, hi⟩ := at_range hd
      have wo := ok.way hi
      simp only [asgT, asgTs, List.set]
      refine Ok.cons (Ok.ife ?_)
      have ec : evE C (.cmp .isnot (.ix (.var 4) (.var 2)) .non) [some w.d, some (.tup (bs.map .int)), some (.int sd), some (.ref M.length), some (wy w.ws i).d, some (.int (nb bs i))] (M ++ [.lst (((List.range w.n).map fun h => sumTo w.ws bs sd i (some h)).map .int)]) = .ok (.v (.bl (decide ((wy w.ws i).side sd ≠ none)))) (M ++ [.lst (((List.range w.n).map fun h => sumTo w.ws bs sd i (some h)).map .int)]) := by
        simp only [evE, List.getElem?_cons_zero, List.getElem?_cons_succ, rbind_ok, wyS _ hsd, ropt_some, notNon, Option.map_some]
      rw [ec]
      refine .ret ⟨_, rfl, ?_⟩
      cases hsid : (wy w.ws i).side sd with
      | none =>
        rw [if_neg (by simp)]
        refine Ok.nil (Ok.nil ⟨srcNil _, _, _, rfl, ?_⟩)
        congr 4
        refine List.map_congr_left fun h _ => ?_
        rw [sumTo_succ, hsid]
        simp
      | some h =>
        rw [if_pos (by simp)]
        have hlt : h < w.n := wo.side sd h hsid
        refine Ok.cons ?_
        have hg : (((List.range w.n).map fun h => sumTo w.ws bs sd i (some h)).map D.int)[h]? = some (.int (sumTo w.ws bs sd i (some h))) := by
          rw [List.getElem?_map, List.getElem?_map, List.getElem?_range hlt]; rfl
        have hl : (((List.range w.n).map fun h => sumTo w.ws bs sd i (some h)).map D.int).length = w.n := by simp
        simp only [evS, evE, List.getElem?_cons_zero, List.getElem?_cons_succ, rbind_ok, wyS _ hsd, ropt_some, hsid, endD, at_app, hl, natI, if_false, seqI hlt, hg, if_true, set_app]
        refine .ret (Ok.nil (Ok.nil ⟨srcNil _, _, _, rfl, ?_⟩))
        congr 3
        rw [← List.map_set]
        congr 1
        refine range_set hlt (by rw [sumTo_succ, hsid, if_pos rfl]) fun j hj => ?_
        rw [sumTo_succ, hsid, if_neg (fun e => hj (Option.some.inj e).symm), Int.add_zero]
    · rintro s M1 ⟨x, y, rfl, rfl⟩
      rw [List.length_map, List.length_range]
      refine Ok.cons (Ok.rtn ?_)
      rw [bTupL at_app (by simp only [evE, List.getElem?_cons_zero, List.getElem?_cons_succ])]
      exact .ret ⟨rfl, rfl⟩
    · congr 3
      rw [List.map_map, ← range_rep]
      rfl
  exact runB_gar rfl main.eq (by rw [D.pure]; exact pures_all fun d hd => by obtain ⟨x, _, rfl⟩ := List.mem_map.mp hd; rfl)
theorem ints_pure (l : List Int) : (D.tup (l.map .int)).pure = true := by rw [D.pure]; exact pures_all fun d hd => by obtain ⟨x, _, rfl⟩ := List.mem_map.mp hd; rfl
theorem nothing_ok (ok : w.Ok hs rs) (hr : rs ≤ 100) : runB C ⟨1, 1, nothingB⟩ [w.d] M = .ok (.v (.tup ((List.replicate w.ws.length 0).map .int))) M := by
  have h1 := ok.m1
  have h2 := ok.m2
  refine runB_pure rfl (cons_rt (ret_eq ?_)) (ints_pure _)
  show evE C _ [some w.d] M = _
  simp only [evE, evEs, List.getElem?_cons_zero, rbind_ok, Res.put, put, web0, ropt_some, lenT, List.length_map, Option.map_some]
  rw [mulT1 ⟨by omega, by omega⟩, ropt_some, Int.toNat_natCast, List.map_replicate]
theorem through_ok (hc : IsSums C f) (ok : w.Ok hs rs) (hh : hs ≤ 100) (hr : rs ≤ 100) (hb : bs.length = w.ws.length) : runB C ⟨2, 2, throughB f⟩ [w.d, .tup (bs.map .int)] M = .ok (.v (.tup ((sumsL w bs 1).map .int))) M := by
  refine runB_pure rfl (cons_rt (ret_eq ?_)) (ints_pure _)
  show evE C _ [some w.d, some (.tup (bs.map .int))] M = _
  have z := hc (sd := 1) ok hh hr hb (by decide) M
  simp only [evE, evEs, List.getElem?_cons_zero, List.getElem?_cons_succ, rbind_ok, Res.put, put]
  exact z
theorem doors_at {ws : List Way} {sd k : Nat} (h : k ∈ door ws sd) : k < ws.length := List.mem_range.mp (List.mem_filter.mp h).1
theorem both_at {ws : List Way} {k : Nat} (h : k ∈ both ws) : k < ws.length := List.mem_range.mp (List.mem_filter.mp h).1
theorem door_wy (ws : List Way) (sd : Nat) : door ws sd = (List.range ws.length).filter fun k => decide ((wy ws k).side sd = none) := by
  unfold door
  refine List.filter_congr fun k hk => ?_
  rw [wy_get (List.mem_range.mp hk)]
  simp
theorem both_wy (ws : List Way) : both ws = (List.range ws.length).filter fun k => decide ((wy ws k).b = none) || decide ((wy ws k).e = none) := by
  unfold both
  refine List.filter_congr fun k hk => ?_
  rw [wy_get (List.mem_range.mp hk)]
  simp [Way.side]
theorem worth_ok (hc : IsDoor C f 0) (hb : bs.length = w.ws.length) : runB C ⟨2, 3, worthB f⟩ [w.d, .tup (bs.map .int)] M = .ok (.v (.int (sumAt w.ws bs 0 none))) M := by
  refine runB_pure rfl (cons_rt (ret_eq ?_)) rfl
  show evE C _ [some w.d, some (.tup (bs.map .int)), none] M = _
  have e := compM (C := C) (tg := .nm 2) (it := .val (.call f (.cons (.var 0) .nil))) (el := .ix (.var 1) (.var 2)) (ws := [2]) (s := [some w.d, some (.tup (bs.map .int)), none]) (M := M) (l := door w.ws 0) (a := fun k : Nat => D.int (k : Nat)) (fun k => .int (nb bs k))
    (itT (by simp only [evE, evEs, List.getElem?_cons_zero, rbind_ok, Res.put, put]; exact hc w M)) (srcNil M) fun k hk => ⟨_, rfl, by
      have hk := doors_at hk
      simp only [wipeE, List.set, evE, List.getElem?_cons_zero, List.getElem?_cons_succ, rbind_ok, ixNb (show k < bs.length by omega), ropt_some]⟩
  have e2 : (door w.ws 0).map (fun k => D.int (nb bs k)) = ((door w.ws 0).map (nb bs)).map .int := by rw [List.map_map]; rfl
  rw [e2] at e
  rw [bSum e, door_wy]
  rfl
theorem at_doors_ok (hc : IsDoors C f) (ok : w.Ok hs rs) (hr : rs ≤ 100) (hb : bs.length = w.ws.length) : runB C ⟨2, 3, at_doorsB f⟩ [w.d, .tup (bs.map .int)] M = .ok (.v (.tup ((both w.ws).map (atD bs)))) M := by
  refine runB_pure rfl (cons_rt (ret_eq ?_)) (by rw [D.pure]; exact pures_all fun d hd => by obtain ⟨x, _, rfl⟩ := List.mem_map.mp hd; rfl)
  show evE C _ [some w.d, some (.tup (bs.map .int)), none] M = _
  have e := compM (C := C) (tg := .nm 2) (it := .val (.call f (.cons (.var 0) .nil))) (el := .tup (.cons (.var 2) (.cons (.ix (.var 1) (.var 2)) .nil))) (ws := [2]) (s := [some w.d, some (.tup (bs.map .int)), none]) (M := M) (l := both w.ws) (a := fun k : Nat => D.int (k : Nat)) (atD bs)
    (itT (by simp only [evE, evEs, List.getElem?_cons_zero, rbind_ok, Res.put, put]; exact hc ok hr M)) (srcNil M) fun k hk => ⟨_, rfl, by
      have hk := both_at hk
      simp only [wipeE, List.set, evE, evEs, List.getElem?_cons_zero, List.getElem?_cons_succ, rbind_ok, ixNb (show k < bs.length by omega), ropt_some, Res.put, put, atD]⟩
  rw [bTupF e]
theorem sum_ok (o : Option Nat) (hz : w.ws.length ≤ 100) (hb : bs.length = w.ws.length) (hsd : sd < 2) : runB C ⟨4, 5, l_sumB⟩ [w.d, .tup (bs.map .int), .int sd, endD o] M = .ok (.v (.int (sumAt w.ws bs sd o))) M := by
  refine runB_pure rfl (cons_rt (ret_eq ?_)) rfl
  show evE C _ [some w.d, some (.tup (bs.map .int)), some (.int sd), some (endD o), none] M = _
  have e := compP (C := C) (tg := .nm 4) (it := .rng1 (.len (.ix (.var 0) (.num 0)))) (el := .ix (.var 1) (.var 4)) (c := .some (.cmp .eq (.ix (.ix (.ix (.var 0) (.num 0)) (.var 4)) (.var 2)) (.var 3))) (ws := [4]) (s := [some w.d, some (.tup (bs.map .int)), some (.int sd), some (endD o), none]) (M := M) (l := List.range w.ws.length) (a := fun k : Nat => D.int (k : Nat)) (fun k => decide ((wy w.ws k).side sd = o)) (fun k => .int (nb bs k))
    (itR (by omega) (by simp only [evE, List.getElem?_cons_zero, rbind_ok, web0, ropt_some, lenT, List.length_map, Option.map_some])) (srcNil M) fun k hk => ⟨_, rfl, by
      have hk := List.mem_range.mp hk
      simp only [wipeE, List.set, evT, evE, List.getElem?_cons_zero, List.getElem?_cons_succ, rbind_ok, web0, ropt_some, ixWy hk, wyS _ hsd, endEq, Option.map_some, toB], fun _ => by
      have hk := List.mem_range.mp hk
      simp only [wipeE, List.set, evE, List.getElem?_cons_zero, List.getElem?_cons_succ, rbind_ok, ixNb (show k < bs.length by omega), ropt_some]⟩
  have e2 : ∀ l : List Nat, l.map (fun k => D.int (nb bs k)) = (l.map (nb bs)).map .int := fun l => by rw [List.map_map]; rfl
  rw [e2] at e
  rw [bSum e]
  rfl
theorem door_len (ws : List Way) (sd : Nat) : (door ws sd).length ≤ ws.length := Nat.le_trans (List.length_filter_le _ _) (by rw [List.length_range]; exact Nat.le_refl _)
theorem sort_both {ws : List Way} {n : Nat} (h : ∀ y ∈ ws, y.Ok n) : sortI ((door ws 0 ++ door ws 1).map fun k : Nat => (k : Int)) = (both ws).map fun k : Nat => (k : Int) := by
  refine sorted_eq ?_ (sortI_sorted _) (range_sorted _ _)
  refine (sortI_perm _).trans (List.Perm.map _ ?_)
  refine filter_or _ _ _ fun k hk => ?_
  have hk : k < ws.length := List.mem_range.mp hk
  simp only [decide_eq_true_eq, List.getElem?_eq_getElem hk, Option.map_some, Option.some.injEq]
  rintro ⟨h1, h2⟩
  exact (h _ (List.getElem_mem hk)).ne (h1.trans h2.symm)
theorem intsD_len (l : List Nat) : (intsD l).length = l.length := by unfold intsD; rw [List.length_map]
theorem intsD_app (l r : List Nat) : intsD l ++ intsD r = intsD (l ++ r) := by unfold intsD; rw [List.map_append]
theorem intsD_ints' (l : List Nat) : intsD l = (l.map fun k : Nat => (k : Int)).map .int := by unfold intsD; rw [List.map_map]; rfl
def doorsB (f_in_doors f_out_doors : Nat) : Ss := (.cons (.ret (.bi .tuple (.val (.bi .sorted (.val (.bop .add (.call f_in_doors (.cons (.var 0) .nil)) (.call f_out_doors (.cons (.var 0) .nil))))))))
  .nil)
theorem doors_ok {g : Nat} (h0 : IsDoor C f 0) (h1 : IsDoor C g 1) (ok : w.Ok hs rs) (hr : rs ≤ 100) : runB C ⟨1, 1, doorsB f g⟩ [w.d] M = .ok (.v (.tup (intsD (both w.ws)))) M := by
  refine runB_pure rfl (cons_rt (ret_eq ?_)) (intsD_pure _)
  show evE C _ [some w.d] M = _
  have e1 : evE C (.call f (.cons (.var 0) .nil)) [some w.d] M = .ok (.v (.tup (intsD (door w.ws 0)))) M := by
    rw [evE]; simp only [evEs, evE, List.getElem?_cons_zero, rbind_ok, Res.put, put]; exact h0 w M
  have e2 : evE C (.call g (.cons (.var 0) .nil)) [some w.d] M = .ok (.v (.tup (intsD (door w.ws 1)))) M := by
    rw [evE]; simp only [evEs, evE, List.getElem?_cons_zero, rbind_ok, Res.put, put]; exact h1 w M
  have a := door_len w.ws 0
  have b := door_len w.ws 1
  have c := ok.m2
  have e3 : evE C (.bop .add (.call f (.cons (.var 0) .nil)) (.call g (.cons (.var 0) .nil))) [some w.d] M = .ok (.v (.tup (((door w.ws 0 ++ door w.ws 1).map fun k : Nat => (k : Int)).map .int))) M := by
    rw [evE, e1, rbind_ok, e2, rbind_ok, addT (by rw [intsD_len, intsD_len]; omega), ropt_some, intsD_app, intsD_ints']
  rw [bTupF (bSortT e3), sort_both ok.wo, ← intsD_ints']
end
end Ev

/-! EvG2: the first family's harness, whole. -/
namespace Ev
open PySem
noncomputable def lvl (defs : List FD) (glb : Nat → D) (fuel n : Nat) : Cl := ⟨callF defs glb fuel n, glb, fuel⟩
theorem lvl_call (defs : List FD) (glb : Nat → D) (fuel n f : Nat) (l : List D) (M : Mem) : (lvl defs glb fuel n).call f l M = callF defs glb fuel n f l M := rfl
theorem lvl_eq {defs : List FD} {glb : Nat → D} {fuel n f : Nat} {l : List D} {M : Mem} {fd : FD} {r : Res W} (e : defs[f]? = some fd) (h : runB (lvl defs glb fuel n) fd l M = r) : (lvl defs glb fuel (n + 1)).call f l M = r := by
  show callF defs glb fuel (n + 1) f l M = r
  rw [callF_succ e]
  exact h
theorem same_at {defs : List FD} {glb : Nat → D} {fuel m n k : Nat} {d : D} (hm : defs[m]? = some ⟨2, 3, sameB m⟩) (hn : n < k) (h : Sm n d) (M : Mem) : (lvl defs glb fuel k).call m [d, d] M = .ok (.v (.bl true)) M := same_ok hm n k d hn h
structure HarnA (defs : List FD) (dk nx on rm od rd wb : Nat) : Prop where
  e1 : defs[dk]? = some ⟨1, 3, deckB⟩
  e2 : defs[nx]? = some ⟨2, 5, nextB⟩
  e3 : defs[on]? = some ⟨2, 2, oneB nx⟩
  e4 : defs[rm]? = some ⟨2, 4, roomB nx on⟩
  e5 : defs[od]? = some ⟨2, 4, orderB nx⟩
  e6 : defs[rd]? = some ⟨3, 8, roadB nx rm⟩
  e7 : defs[wb]? = some ⟨4, 11, webB nx od rd⟩
section
variable {defs : List FD} {glb : Nat → D} {fuel : Nat} {dk nx on rm od rd wb : Nat}
section
variable (H : HarnA defs dk nx on rm od rd wb) (hf : 200 ≤ fuel)
include H hf
theorem HarnA.next (n : Nat) : Nx (lvl defs glb fuel (n + 1)) nx := fun h0 h1 hB h => by
  show Ok (callF defs glb fuel (n + 1) nx _ _) _
  rw [callF_succ H.e2]
  exact next_ok (show 100 ≤ fuel by omega) h0 h1 hB h
theorem HarnA.one (n : Nat) : One (lvl defs glb fuel (n + 2)) on := fun hB h a hl hz hp => by
  show Ok (callF defs glb fuel (n + 2) on _ _) _
  rw [callF_succ H.e3]
  exact one_ok (H.next hf n) hB h a hl hz hp
theorem HarnA.room (n : Nat) : Rm (lvl defs glb fuel (n + 3)) rm := fun far _ _ _ hB h => by
  show Ok (callF defs glb fuel (n + 3) rm _ _) _
  rw [callF_succ H.e4]
  exact room_ok (H.next hf (n + 1)) (H.one hf n) far hB h
theorem HarnA.order (n : Nat) : Od (lvl defs glb fuel (n + 2)) od := fun hz hB h a => by
  show Ok (callF defs glb fuel (n + 2) od _ _) _
  rw [callF_succ H.e5]
  exact order_ok (H.next hf n) hz hB h a
theorem HarnA.road (n : Nat) : RdS (lvl defs glb fuel (n + 4)) rd := fun far _ _ _ _ h1 h2 hB h => by
  show Ok (callF defs glb fuel (n + 4) rd _ _) _
  rw [callF_succ H.e6]
  exact road_ok (H.next hf (n + 2)) (H.room hf n) far h1 h2 hB h
theorem HarnA.web (n : Nat) {B : Nat} {X M : Mem} (far : Bool) {hs rs : Nat} (p1 : 0 < hs) (p2 : hs ≤ 100) (p3 : 0 < rs) (p4 : rs ≤ 100) (hB : B + 2000000 < 2 ^ 60) (h : Dk B X M) :
    Ok ((lvl defs glb fuel (n + 5)).call wb [.ref 3, .int hs, .int rs, .bl far] M) fun w M' => ∃ y : Web, w = .v y.d ∧ y.Ok hs rs ∧ (far = false → ∀ z ∈ y.ws, z.r ≤ 5) ∧ Dk (B + 1000000) X M' := by
  show Ok (callF defs glb fuel (n + 5) wb _ _) _
  rw [callF_succ H.e7]
  exact web_ok (H.next hf (n + 3)) (H.order hf (n + 2)) (H.road hf n) far p1 p2 p3 p4 hB h
end
theorem HarnA.round (H : HarnA defs dk nx on rm od rd wb) (hf : 200 ≤ fuel) {ro : Nat} (e8 : ∃ ns, defs[ro]? = some ⟨3, ns, roundB nx on⟩ ∧ ns = 11) (n : Nat) : Rn (lvl defs glb fuel (n + 3)) ro := fun ok hh hr hb hB h a => by
  obtain ⟨ns, e8, rfl⟩ := e8
  show Ok (callF defs glb fuel (n + 3) ro _ _) _
  rw [callF_succ e8]
  exact round_ok (H.next hf (n + 1)) (H.one hf n) (show 200 ≤ fuel from hf) ok hh hr hb hB h a
theorem HarnA.stream (H : HarnA defs dk nx on rm od rd wb) (hf : 200 ≤ fuel) {ro st : Nat} (e8 : ∃ ns, defs[ro]? = some ⟨3, ns, roundB nx on⟩ ∧ ns = 11) (e9 : defs[st]? = some ⟨3, 9, streamB nx on ro⟩) (n : Nat)
    {B : Nat} {X M : Mem} {w : Web} {hs rs : Nat} (ok : w.Ok hs rs) (hh : hs ≤ 100) (hrs : rs ≤ 100) {m : Nat} (hm : m ≤ 1000) (hB : B + 1000000 < 2 ^ 60) (h : Dk B X M) :
    Ok ((lvl defs glb fuel (n + 4)).call st [.ref 3, w.d, .int m] M) fun x M' => ∃ bs : List Int, x = .v (.tup (bs.map .int)) ∧ Strm w.ws bs ∧ Dk (B + 300000) X M' := by
  show Ok (callF defs glb fuel (n + 4) st _ _) _
  rw [callF_succ e9]
  exact stream_ok (H.next hf (n + 2)) (H.one hf (n + 1)) (H.round hf e8 n) ok hh hrs hm hB h
/-- the deck is laid -/
theorem HarnA.start (H : HarnA defs dk nx on rm od rd wb) {ns : List Int} (hns : ns.length ≤ 63) {n : Nat} {s : Env} {r : Ss} {P : Fl → Mem → Prop} (h0 : s[0]? = some (some (.scr ns)))
    (h : ∀ M, Dk 0 [] M → Ok (evSs (lvl defs glb fuel (n + 1)) r (s.set 1 (some (.ref 3))) M) P) :
    Ok (evSs (lvl defs glb fuel (n + 1)) (.cons (.asg (.nm 1) (.call dk (.cons (.var 0) .nil))) r) s []) P := by
  obtain ⟨g, rs, ps, ok, ed⟩ := deck_ok (C := lvl defs glb fuel n) hns
  refine Ok.cons (Ok.asg ?_)
  have e0 : evE (lvl defs glb fuel (n + 1)) (.call dk (.cons (.var 0) .nil)) s [] = .ok (.fl [.ref 1, .ref 2, .int 0]) [.lst (g.map .int), .lst (rs.map .int), .lst (ps.map .int)] := by
    rw [evE]
    simp only [evEs, evE, h0, rbind_ok, Res.put, put]
    show callF defs glb fuel (n + 1) dk _ _ = _
    rw [callF_succ H.e1]
    exact ed
  rw [e0]
  refine .ret ?_
  simp only [put, List.length_cons, List.length_nil]
  exact h _ ⟨g, rs, ps, 0, ok, by omega, rfl⟩
end
section
variable {C : Cl} {nx : Nat} {s : Env} {B : Nat} {X M : Mem}
theorem draw_ok (hn : Nx C nx) (h1 : s[1]? = some (some (.ref 3))) {m : Int} (h0 : 0 < m) (hm : m < 2 ^ 60) (hB : B < 2 ^ 60) (h : Dk B X M) :
    Ok (evE C (.call nx (.cons (.var 1) (.cons (.num m) .nil))) s M) fun w M' => ∃ v : Nat, w = .v (.int (v : Nat)) ∧ (v : Int) < m ∧ Dk (B + 1) X M' := by
  refine Ok.call ?_
  simp only [evEs, evE, h1, rbind_ok, Res.put, put]
  refine .ret ((hn h0 hm hB h).mono fun w M' ⟨v, e, v0, v1, h2⟩ => ⟨v.toNat, ?_, by omega, h2⟩)
  rw [e, Int.toNat_of_nonneg v0]
theorem coin_ok (hn : Nx C nx) (h1 : s[1]? = some (some (.ref 3))) {m : Int} (h0 : 0 < m) (hm : m < 2 ^ 60) (hB : B < 2 ^ 60) (h : Dk B X M) :
    Ok (evE C (.cmp .eq (.call nx (.cons (.var 1) (.cons (.num m) .nil))) (.num 0)) s M) fun w M' => ∃ b : Bool, w = .v (.bl b) ∧ Dk (B + 1) X M' := by
  rw [evE]
  refine (draw_ok hn h1 h0 hm hB h).bind fun w M' ⟨v, e, _, h2⟩ => ?_
  subst e
  simp only [evE, rbind_ok, cmpW, eqW, scalEq, Option.map_some, ropt_some]
  exact .ret ⟨_, rfl, h2⟩
end
section
variable {defs : List FD} {glb : Nat → D} {fuel : Nat} {dk nx on rm od rd wb : Nat} {s : Env} {r : Ss} {P : Fl → Mem → Prop} {B : Nat} {X M : Mem}
/-- web = web(deck, hs, rs, next(deck, 2) == 0) -/
theorem HarnA.webS (H : HarnA defs dk nx on rm od rd wb) (hf : 200 ≤ fuel) {n hs rs t : Nat} (p1 : 0 < hs) (p2 : hs ≤ 100) (p3 : 0 < rs) (p4 : rs ≤ 100) (h1 : s[1]? = some (some (.ref 3))) (hB : B + 3000000 < 2 ^ 60) (hd : Dk B X M)
    (k : ∀ (y : Web) (M' : Mem), y.Ok hs rs → Dk (B + 1000001) X M' → Ok (evSs (lvl defs glb fuel (n + 5)) r (s.set t (some y.d)) M') P) :
    Ok (evSs (lvl defs glb fuel (n + 5)) (.cons (.asg (.nm t) (.call wb (.cons (.var 1) (.cons (.num hs) (.cons (.num rs) (.cons (.cmp .eq (.call nx (.cons (.var 1) (.cons (.num 2) .nil))) (.num 0)) .nil)))))) r) s M) P := by
  refine Ok.cons (Ok.asg (Ok.call ?_))
  rw [evEs, evE, h1]
  simp only [rbind_ok, Res.put, put]
  rw [evEs, evE]
  simp only [rbind_ok, Res.put, put]
  rw [evEs, evE]
  simp only [rbind_ok, Res.put, put]
  rw [evEs]
  simp only [Res.put, rbind_assoc]
  refine Ok.bind (coin_ok (H.next hf (n + 4)) h1 (by decide) (by decide) (by omega) hd) fun w M1 ⟨b, e, h2⟩ => ?_
  subst e
  simp only [evEs, rbind_ok, put]
  refine .ret ((H.web hf n b p1 p2 p3 p4 (by omega) h2).mono fun w M2 ⟨y, e, yo, _, h3⟩ => ?_)
  subst e
  exact k y M2 yo (h3.mono (by omega))
/-- stream = stream(deck, web, next(deck, m)) -/
theorem HarnA.streamS (H : HarnA defs dk nx on rm od rd wb) (hf : 200 ≤ fuel) {ro st : Nat} (e8 : ∃ ns, defs[ro]? = some ⟨3, ns, roundB nx on⟩ ∧ ns = 11) (e9 : defs[st]? = some ⟨3, 9, streamB nx on ro⟩) {n hs rs t u : Nat} {w : Web} (ok : w.Ok hs rs) (hh : hs ≤ 100) (hrs : rs ≤ 100) {m : Nat} (hm0 : 0 < m) (hm : m ≤ 1000)
    (h1 : s[1]? = some (some (.ref 3))) (h3 : s[u]? = some (some w.d)) (hB : B + 3000000 < 2 ^ 60) (hd : Dk B X M)
    (k : ∀ (bs : List Int) (M' : Mem), Strm w.ws bs → Dk (B + 300001) X M' → Ok (evSs (lvl defs glb fuel (n + 5)) r (s.set t (some (.tup (bs.map .int)))) M') P) :
    Ok (evSs (lvl defs glb fuel (n + 5)) (.cons (.asg (.nm t) (.call st (.cons (.var 1) (.cons (.var u) (.cons (.call nx (.cons (.var 1) (.cons (.num m) .nil))) .nil))))) r) s M) P := by
  refine Ok.cons (Ok.asg (Ok.call ?_))
  rw [evEs, evE, h1]
  simp only [rbind_ok, Res.put, put]
  rw [evEs, evE, h3]
  simp only [rbind_ok, Res.put, put]
  rw [evEs]
  simp only [Res.put, rbind_assoc]
  refine Ok.bind (draw_ok (H.next hf (n + 4)) h1 (m := (m : Int)) (by omega) (by omega) (by omega) hd) fun w2 M1 ⟨v, e, hv, h2⟩ => ?_
  subst e
  simp only [evEs, rbind_ok, put]
  refine .ret ((H.stream hf e8 e9 (n + 1) ok hh hrs (m := v) (by omega) (by omega) h2).mono fun w2 M2 ⟨bs, e, st, h4⟩ => ?_)
  subst e
  exact k bs M2 st (h4.mono (by omega))
end
/-- True at the end -/
theorem fin_true {C : Cl} {s : Env} {M : Mem} : Ok (evSs C (.cons (.ret (.bl true)) .nil) s M) fun f M1 => match f with
      | .rt w => Ok (leave [] w M1) fun w _ => w = .v (.bl true)
      | .nx _ => Ok (leave [] (.v .non) M1) fun w _ => w = .v (.bl true)
      | _ => False := by
  refine Ok.cons (Ok.rtn ?_)
  rw [evE]
  refine .ret ?_
  show Ok (leave [] (.v (.bl true)) M) _
  unfold leave
  split
  · rw [if_pos (by rfl)]; exact .ret rfl
  · exact .ret rfl
theorem law_of {r : Res W} (h : Ok r fun w _ => w = .v (.bl true)) : ∃ M, r = .ok (.v (.bl true)) M := by
  obtain ⟨w, M, e, rfl⟩ := h
  exact ⟨M, e⟩
end Ev

/-! EvG3: faults of streams. -/
namespace Ev
open PySem
/-- a loop that tells the first of some -/
theorem forL_find {body : D → Env → Mem → Res Fl} {l : List D} {M : Mem} {ss : List (Nat × O)} (hss : SrcOk ss M) (E : Env → Prop) (p : Nat → Bool) (r : Nat → W)
    (step : ∀ i d s, l[i]? = some d → E s → (p i = false → ∃ s', E s' ∧ body d s M = .ok (.nx s') M) ∧ (p i = true → body d s M = .ok (.rt (r i)) M)) {s : Env} (h : E s) :
    Ok (forL body ss l s M) fun f M' => M' = M ∧ match (List.range l.length).find? p with
      | some k => f = .rt (r k)
      | none => ∃ s', E s' ∧ f = .nx s' := by
  refine forL_ok (fun i s M1 => E s ∧ M1 = M ∧ ∀ j, j < i → p j = false) ?_ ?_ ⟨h, rfl, fun j hj => absurd hj (Nat.not_lt_zero _)⟩
  · rintro i d s M1 hd ⟨hE, rfl, hj⟩
    obtain ⟨s1, s2⟩ := step i d s hd hE
    cases hp : p i with
    | false =>
      obtain ⟨s', e1, e2⟩ := s1 hp
      rw [e2]
      refine .ret ⟨hss, e1, rfl, fun j hji => ?_⟩
      rcases Nat.lt_or_ge j i with q | q
      · exact hj j q
      · rw [show j = i by omega]; exact hp
    | true =>
      rw [s2 hp]
      refine .ret ⟨rfl, ?_⟩
      have hi : i < l.length := (List.getElem?_eq_some_iff.mp hd).1
      have e : (List.range l.length).find? p = some i := by
        rw [List.find?_range_eq_some]
        exact ⟨hp, List.mem_range.mpr hi, fun j hji => by rw [hj j hji]; rfl⟩
      rw [e]
  · rintro s M1 ⟨hE, rfl, hj⟩
    refine ⟨rfl, ?_⟩
    have e : (List.range l.length).find? p = none := by
      rw [List.find?_eq_none]
      intro x hx
      rw [hj x (List.mem_range.mp hx)]
      decide
    rw [e]
    exact ⟨s, hE, rfl⟩
def numIn (d : D) (lo hi : Int) : Bool := match d with
  | .int x => decide (lo ≤ x) && decide (x ≤ hi)
  | _ => false
def rowIn (d : D) (lo hi : Int) : Bool := match d with
  | .tup l => decide (lo ≤ (l.length : Int)) && decide ((l.length : Int) ≤ hi)
  | _ => false
def amtD (d : D) : Bool := match d with
  | .int x => decide (0 ≤ x)
  | _ => false
/-- it has a type that is known -/
def Tyd (M : Mem) (d : D) : Prop := match d with
  | .ref n => ∃ o, M[n]? = some o ∧ ∀ c l, o ≠ .ins c l
  | _ => True
def is_numberB : Ss := (.cons (.ret (.and (.isi (.var 0) .int) (.and (.not (.isi (.var 0) .bool)) (.chain .le .le (.var 1) (.var 0) (.var 2)))))
  .nil)
def is_rowB : Ss := (.cons (.ret (.and (.isi (.var 0) .tuple) (.chain .le .le (.var 1) (.len (.var 0)) (.var 2))))
  .nil)
def is_amountB : Ss := (.cons (.ret (.and (.isi (.var 0) .int) (.and (.not (.isi (.var 0) .bool)) (.cmp .ge (.var 0) (.num 0)))))
  .nil)
section
variable {C : Cl} {M : Mem} {s : Env}
theorem tyInt {d : D} (h : Tyd M d) : isTy M (.v d) .int = some (match d with | .int _ => true | .bl _ => true | _ => false) := by
  cases d with
  | ref n =>
    obtain ⟨o, e, h⟩ := h
    simp only [isTy, e]
    cases o with
    | lst l => rfl
    | dct l => rfl
    | ins c l => exact absurd rfl (h c l)
  | _ => rfl
theorem tyTup {d : D} (h : Tyd M d) : isTy M (.v d) .tuple = some (match d with | .tup _ => true | _ => false) := by
  cases d with
  | ref n =>
    obtain ⟨o, e, h⟩ := h
    simp only [isTy, e]
    cases o with
    | lst l => rfl
    | dct l => rfl
    | ins c l => exact absurd rfl (h c l)
  | _ => rfl
theorem xChI {a b c : E} {i j k : Int} (h1 : evE C a s M = .ok (.v (.int i)) M) (h2 : evE C b s M = .ok (.v (.int j)) M) (h3 : evE C c s M = .ok (.v (.int k)) M) : evE C (.chain .le .le a b c) s M = .ok (.v (.bl (decide (i ≤ j) && decide (j ≤ k)))) M := by
  rw [evE, h1, rbind_ok, h2, rbind_ok]
  show (Res.opt (some (decide (i ≤ j))) M).bind _ = _
  rw [ropt_some, rbind_ok]
  cases hd : decide (i ≤ j) with
  | false => rfl
  | true =>
    show (evE C c s M).bind _ = _
    rw [h3]; rfl
theorem is_number_ok {d : D} {lo hi : Int} (h : Tyd M d) : runB C ⟨3, 3, is_numberB⟩ [d, .int lo, .int hi] M = .ok (.v (.bl (numIn d lo hi))) M := by
  refine runB_pure rfl (cons_rt (ret_eq ?_)) rfl
  show evE C _ [some d, some (.int lo), some (.int hi)] M = _
  cases d with
  | int x => exact xAT (xTy (xV rfl) (tyInt h)) (xAT (xNT (xTy (xV rfl) rfl)) (xChI (xV rfl) (xV rfl) (xV rfl)))
  | bl b => exact xAT (xTy (xV rfl) (tyInt h)) (xAF (xNF (xTy (xV rfl) rfl)))
  | non => exact xAF (xTy (xV rfl) (tyInt h))
  | str x => exact xAF (xTy (xV rfl) (tyInt h))
  | tup l => exact xAF (xTy (xV rfl) (tyInt h))
  | ref n => exact xAF (xTy (xV rfl) (tyInt h))
  | scr l => exact xAF (xTy (xV rfl) (tyInt h))
theorem is_row_ok {d : D} {lo hi : Int} (h : Tyd M d) : runB C ⟨3, 3, is_rowB⟩ [d, .int lo, .int hi] M = .ok (.v (.bl (rowIn d lo hi))) M := by
  refine runB_pure rfl (cons_rt (ret_eq ?_)) rfl
  show evE C _ [some d, some (.int lo), some (.int hi)] M = _
  cases d with
  | tup l => exact xAT (xTy (xV rfl) (tyTup h)) (xChI (xV rfl) (xLn (xV rfl) (lenT l)) (xV rfl))
  | int x => exact xAF (xTy (xV rfl) (tyTup h))
  | bl b => exact xAF (xTy (xV rfl) (tyTup h))
  | non => exact xAF (xTy (xV rfl) (tyTup h))
  | str x => exact xAF (xTy (xV rfl) (tyTup h))
  | ref n => exact xAF (xTy (xV rfl) (tyTup h))
  | scr l => exact xAF (xTy (xV rfl) (tyTup h))
theorem is_amount_ok {d : D} (h : Tyd M d) : runB C ⟨1, 1, is_amountB⟩ [d] M = .ok (.v (.bl (amtD d))) M := by
  refine runB_pure rfl (cons_rt (ret_eq ?_)) rfl
  show evE C _ [some d] M = _
  cases d with
  | int x => exact xAT (xTy (xV rfl) (tyInt h)) (xAT (xNT (xTy (xV rfl) rfl)) (xCm (xV rfl) xN rfl))
  | bl b => exact xAT (xTy (xV rfl) (tyInt h)) (xAF (xNF (xTy (xV rfl) rfl)))
  | non => exact xAF (xTy (xV rfl) (tyInt h))
  | str x => exact xAF (xTy (xV rfl) (tyInt h))
  | tup l => exact xAF (xTy (xV rfl) (tyInt h))
  | ref n => exact xAF (xTy (xV rfl) (tyInt h))
  | scr l => exact xAF (xTy (xV rfl) (tyInt h))
end
section
variable (C : Cl) (f : Nat)
def IsNumber : Prop := ∀ {d : D} {lo hi : Int} {M : Mem} (_ : Tyd M d), C.call f [d, .int lo, .int hi] M = .ok (.v (.bl (numIn d lo hi))) M
def IsRow : Prop := ∀ {d : D} {lo hi : Int} {M : Mem} (_ : Tyd M d), C.call f [d, .int lo, .int hi] M = .ok (.v (.bl (rowIn d lo hi))) M
def IsAmount : Prop := ∀ {d : D} {M : Mem} (_ : Tyd M d), C.call f [d] M = .ok (.v (.bl (amtD d))) M
end
/-! ### streamfault -/
def streamfaultB (f_sums f_is_number f_is_row f_is_amount : Nat) : Ss := (.cons (.asg (.nm 2) (.len (.ix (.var 0) (.num 0))))
  (.cons (.ife (.or (.not (.call f_is_row (.cons (.var 1) (.cons (.var 2) (.cons (.var 2) .nil))))) (.not (.bi .all (.val (.comp (.call f_is_amount (.cons (.var 8) .nil)) (.nm 8) (.val (.var 1)) .none [8])))))
  (.cons (.ret (.tup (.cons (.str "form") .nil)))
  .nil)
  .nil)
  (.cons (.for_ (.tp (.cons (.nm 3) (.cons (.nm 4) .nil))) (.enum (.ix (.var 0) (.num 0)))
  (.cons (.ife (.not (.call f_is_number (.cons (.ix (.var 1) (.var 3)) (.cons (.num 0) (.cons (.ix (.var 4) (.num 2)) .nil)))))
  (.cons (.ret (.tup (.cons (.str "room") (.cons (.var 3) .nil))))
  .nil)
  .nil)
  .nil))
  (.cons (.for_ (.tp (.cons (.nm 5) (.cons (.tp (.cons (.nm 6) (.cons (.nm 7) .nil))) .nil))) (.enz (.call f_sums (.cons (.var 0) (.cons (.var 1) (.cons (.num 0) .nil)))) (.call f_sums (.cons (.var 0) (.cons (.var 1) (.cons (.num 1) .nil)))))
  (.cons (.ife (.cmp .ne (.var 6) (.var 7))
  (.cons (.ret (.tup (.cons (.str "house") (.cons (.var 5) .nil))))
  .nil)
  .nil)
  .nil))
  (.cons (.ret .non)
  .nil)))))
def roomF (ws : List Way) (bs : List Int) : Option Nat := (List.range ws.length).find? fun k => !(decide (0 ≤ nb bs k) && decide (nb bs k ≤ (wy ws k).r))
def houseF (n : Nat) (ws : List Way) (bs : List Int) : Option Nat := (List.range n).find? fun h => !decide (sumAt ws bs 0 (some h) = sumAt ws bs 1 (some h))
def tagD (t : Str) (k : Nat) : D := .tup [.str t, .int (k : Nat)]
def faultD (w : Web) (bs : List Int) : D :=
  if bs.all (fun x => decide (0 ≤ x)) then
    match roomF w.ws bs with
    | some k => tagD "room" k
    | none => match houseF w.n w.ws bs with
      | some h => tagD "house" h
      | none => .non
  else .tup [.str "form"]
theorem itEz {C : Cl} {s : Env} {M : Mem} {e e2 : E} {l r : List D} (hl : l.length = r.length) (h : evE C e s M = .ok (.v (.tup l)) M) (h2 : evE C e2 s M = .ok (.v (.tup r)) M) :
    evI C (.enz e e2) s M = .ok ((List.range l.length).map fun k => .tup [.int (k : Nat), .tup [(l[k]?).getD .non, (r[k]?).getD .non]], []) M := by
  rw [evI, h, rbind_ok, h2, rbind_ok]
  have e : enumD 0 (zipD l r) = (List.range l.length).map fun k => .tup [.int (k : Nat), .tup [(l[k]?).getD .non, (r[k]?).getD .non]] := by
    rw [zip_nat l r hl, enum_nat, List.length_map, List.length_range]
    refine List.map_congr_left fun k hk => ?_
    rw [List.getElem?_map, List.getElem?_range (List.mem_range.mp hk)]
    rfl
  show Res.ok (enumD 0 (zipD l r), []) M = _
  rw [e]
section
variable {C : Cl} {M : Mem} {w : Web} {bs : List Int} {hs rs f1 f2 f3 f4 : Nat}
theorem all_amt (bs : List Int) : (bs.map fun x => decide (0 ≤ x)).all id = bs.all fun x => decide (0 ≤ x) := by
  rw [List.all_map]; rfl
theorem fault_form {s : Env} (h1 : s[1]? = some (some (.tup (bs.map .int)))) (h2 : s[2]? = some (some (.int (w.ws.length : Nat)))) (h8 : s.length = 9) (q3 : IsRow C f3) (q4 : IsAmount C f4) (hb : bs.length = w.ws.length) :
    evE C (.or (.not (.call f3 (.cons (.var 1) (.cons (.var 2) (.cons (.var 2) .nil))))) (.not (.bi .all (.val (.comp (.call f4 (.cons (.var 8) .nil)) (.nm 8) (.val (.var 1)) .none [8]))))) s M = .ok (.v (.bl (!bs.all fun x => decide (0 ≤ x)))) M := by
  refine xOF (M1 := M) ?_ (xNt ?_)
  · have z := xNt (xF (C := C) (s := s) (M := M) (xC (xV h1) (xC (xV h2) (xC (xV h2) xZ))) (q3 (d := .tup (bs.map .int)) (lo := w.ws.length) (hi := w.ws.length) trivial))
    have e : rowIn (.tup (bs.map D.int)) (w.ws.length : Nat) (w.ws.length : Nat) = true := by simp [rowIn, hb]
    rw [e] at z
    exact z
  · rw [← all_amt]
    refine bAll ?_
    have z := compM (C := C) (tg := .nm 8) (it := .val (.var 1)) (el := .call f4 (.cons (.var 8) .nil)) (ws := [8]) (s := s) (M := M) (l := bs) (a := D.int) (fun x => .bl (decide (0 ≤ x))) (itT (xV h1)) (srcNil M) fun x hx => ⟨_, rfl, xF (xC (xV (List.getElem?_set_self (by simp [wipeE]; omega))) xZ) (q4 (d := .int x) trivial)⟩
    rw [z, List.map_map]
    rfl
theorem fault_ok (q1 : IsSums C f1) (q2 : IsNumber C f2) (q3 : IsRow C f3) (q4 : IsAmount C f4) (ok : w.Ok hs rs) (hh : hs ≤ 100) (hr : rs ≤ 100) (hb : bs.length = w.ws.length) :
    runB C ⟨2, 9, streamfaultB f1 f2 f3 f4⟩ [w.d, .tup (bs.map .int)] M = .ok (.v (faultD w bs)) M := by
  have main : Ok (evSs C (streamfaultB f1 f2 f3 f4) [some w.d, some (.tup (bs.map .int)), none, none, none, none, none, none, none] M) fun fl M' => fl = .rt (.v (faultD w bs)) ∧ M' = M := by
    unfold streamfaultB
    refine yA (xLn (xIx (xV rfl) xN (web0 w)) (by rw [lenT, List.length_map])) ?_
    simp only [List.set]
    have e1 := fault_form (C := C) (M := M) (w := w) (bs := bs) (f3 := f3) (f4 := f4) (s := [some w.d, some (.tup (bs.map .int)), some (.int (w.ws.length : Nat)), none, none, none, none, none, none]) rfl rfl rfl q3 q4 hb
    cases ha : bs.all fun x => decide (0 ≤ x) with
    | false =>
      rw [ha] at e1
      refine yT e1 (yR (xT (xC xS xZ)) ?_)
      refine ⟨?_, rfl⟩
      unfold faultD
      rw [ha]
      rfl
    | true =>
      rw [ha] at e1
      refine yF e1 ?_
      refine Ok.cons (Ok.for ?_)
      rw [itE (xIx (xV rfl) xN (web0 w))]
      refine .ret ?_
      simp only [List.length_map]
      refine (forL_find (srcNil M) (fun s => ∃ x3 x4 : Option D, s = [some w.d, some (.tup (bs.map .int)), some (.int (w.ws.length : Nat)), x3, x4, none, none, none, none]) (fun k => !(decide (0 ≤ nb bs k) && decide (nb bs k ≤ (wy w.ws k).r))) (fun k => .v (tagD "room" k)) ?_ ⟨none, none, rfl⟩).mono ?_
      · rintro i d s hd ⟨x3, x4, rfl⟩
        obtain ⟨rfl, hi⟩ := at_range hd
        rw [wyD hi]
        simp only [asgT, asgTs, List.set]
        have ec := xNt (xF (C := C) (s := [some w.d, some (.tup (bs.map .int)), some (.int (w.ws.length : Nat)), some (.int (i : Nat)), some (wy w.ws i).d, none, none, none, none]) (M := M) (xC (xIx (xV (i := 1) rfl) (xV (i := 3) rfl) (ixNb (by omega))) (xC (xN (i := 0)) (xC (xIx (xV (i := 4) rfl) xN (wyR _)) xZ))) (q2 trivial))
        refine ⟨fun hp => ⟨_, ⟨some (.int (i : Nat)), some (wy w.ws i).d, rfl⟩, ?_⟩, fun hp => ?_⟩
        · rw [show numIn (.int (nb bs i)) 0 (wy w.ws i).r = (decide (0 ≤ nb bs i) && decide (nb bs i ≤ (wy w.ws i).r)) from rfl, hp] at ec
          rw [cons_nx ((ife_f ec).trans nil_nx), nil_nx]
        · rw [show numIn (.int (nb bs i)) 0 (wy w.ws i).r = (decide (0 ≤ nb bs i) && decide (nb bs i ≤ (wy w.ws i).r)) from rfl, hp] at ec
          rw [cons_rt ((ife_t ec).trans (cons_rt (ret_eq (xT (xC xS (xC (xV rfl) xZ))))))]
          rfl
      · rintro fl M' ⟨hM, h⟩
        replace hM := hM.symm
        subst hM
        rw [List.length_map, List.length_range] at h
        have hF : faultD w bs = match roomF w.ws bs with
          | some k => tagD "room" k
          | none => match houseF w.n w.ws bs with
            | some h => tagD "house" h
            | none => .non := by unfold faultD; rw [ha]; rfl
        change (match roomF w.ws bs with | some k => _ | none => _) at h
        cases hR : roomF w.ws bs with
        | some k =>
          rw [hR] at h hF
          simp only at h hF
          subst h
          exact ⟨by rw [hF], rfl⟩
        | none =>
          rw [hR] at h hF
          simp only at h hF
          obtain ⟨s', ⟨x3, x4, rfl⟩, rfl⟩ := h
          simp only
          have z0 : C.call f1 [w.d, .tup (bs.map .int), .int 0] M = _ := q1 (sd := 0) ok hh hr hb (by decide) M
          have z1 : C.call f1 [w.d, .tup (bs.map .int), .int 1] M = _ := q1 (sd := 1) ok hh hr hb (by decide) M
          have ll : ∀ sd, ((sumsL w bs sd).map D.int).length = w.n := fun sd => by unfold sumsL; simp
          refine Ok.cons (Ok.for ?_)
          rw [itEz (l := (sumsL w bs 0).map .int) (r := (sumsL w bs 1).map .int) (by rw [ll, ll]) (xF (xC (xV rfl) (xC (xV rfl) (xC xN xZ))) z0) (xF (xC (xV rfl) (xC (xV rfl) (xC xN xZ))) z1)]
          refine .ret ?_
          rw [ll]
          refine (forL_find (srcNil M) (fun s => ∃ x5 x6 x7 : Option D, s = [some w.d, some (.tup (bs.map .int)), some (.int (w.ws.length : Nat)), x3, x4, x5, x6, x7, none]) (fun h => !decide (sumAt w.ws bs 0 (some h) = sumAt w.ws bs 1 (some h))) (fun k => .v (tagD "house" k)) ?_ ⟨none, none, none, rfl⟩).mono ?_
          · rintro i d s hd ⟨x5, x6, x7, rfl⟩
            obtain ⟨rfl, hi⟩ := at_range hd
            have gd : ∀ sd, (((sumsL w bs sd).map D.int)[i]?).getD .non = .int (sumAt w.ws bs sd (some i)) := fun sd => by
              unfold sumsL
              rw [List.getElem?_map, List.getElem?_map, List.getElem?_range hi]
              rfl
            rw [gd, gd]
            simp only [asgT, asgTs, List.set]
            have ec : evE C (.cmp .ne (.var 6) (.var 7)) [some w.d, some (.tup (bs.map .int)), some (.int (w.ws.length : Nat)), x3, x4, some (.int (i : Nat)), some (.int (sumAt w.ws bs 0 (some i))), some (.int (sumAt w.ws bs 1 (some i))), none] M = .ok (.v (.bl (!decide (sumAt w.ws bs 0 (some i) = sumAt w.ws bs 1 (some i))))) M := xCm (xV rfl) (xV rfl) rfl
            refine ⟨fun hp => ⟨_, ⟨some (.int (i : Nat)), some (.int (sumAt w.ws bs 0 (some i))), some (.int (sumAt w.ws bs 1 (some i))), rfl⟩, ?_⟩, fun hp => ?_⟩
            · rw [hp] at ec
              rw [cons_nx ((ife_f ec).trans nil_nx), nil_nx]
            · rw [hp] at ec
              rw [cons_rt ((ife_t ec).trans (cons_rt (ret_eq (xT (xC xS (xC (xV rfl) xZ))))))]
              rfl
          · rintro fl M' ⟨hM, h⟩
            replace hM := hM.symm
            subst hM
            rw [List.length_map, List.length_range] at h
            change (match houseF w.n w.ws bs with | some k => _ | none => _) at h
            cases hH : houseF w.n w.ws bs with
            | some k =>
              rw [hH] at h hF
              simp only at h hF
              subst h
              exact ⟨by rw [hF], rfl⟩
            | none =>
              rw [hH] at h hF
              simp only at h hF
              obtain ⟨s', ⟨x5, x6, x7, rfl⟩, rfl⟩ := h
              refine yR xO ?_
              exact ⟨by rw [hF], rfl⟩
  refine runB_pure rfl main.eq ?_
  unfold faultD
  split
  · split
    · rfl
    · split <;> rfl
  · rfl
def IsFault (C : Cl) (f : Nat) : Prop := ∀ {hs rs : Nat} {w : Web} {bs : List Int} (_ : w.Ok hs rs) (_ : hs ≤ 100) (_ : rs ≤ 100) (_ : bs.length = w.ws.length) (M : Mem), C.call f [w.d, .tup (bs.map .int)] M = .ok (.v (faultD w bs)) M
end
end Ev

/-! EvG4: sums over roads; what streams keep. -/
namespace Ev
open PySem
theorem side_wy {ws : List Way} {bs : List Int} {sd : Nat} {o : Option Nat} : Ev.side ws bs sd o = sumAt ws bs sd o := by
  unfold side sumAt
  have e : (List.range ws.length).filter (fun k => decide ((ws[k]?.map (Way.side sd)) = some o)) = (List.range ws.length).filter fun k => decide ((wy ws k).side sd = o) := by
    refine List.filter_congr fun k hk => ?_
    rw [wy_get (List.mem_range.mp hk)]
    simp
  rw [e]
  rfl
/-- a sum over the roads of some kind -/
def fs (ws : List Way) (bs : List Int) (p : Way → Bool) : Int := (((List.range ws.length).filter fun k => p (wy ws k)).map (nb bs)).sum
theorem sum_filter {α : Type} (p : α → Bool) (f : α → Int) : ∀ l : List α, ((l.filter p).map f).sum = (l.map fun k => if p k = true then f k else 0).sum
  | [] => rfl
  | a :: r => by
    rw [List.filter_cons, List.map_cons, List.sum_cons, ← sum_filter p f r]
    cases h : p a <;> simp
theorem fs_ite (ws : List Way) (bs : List Int) (p : Way → Bool) : fs ws bs p = ((List.range ws.length).map fun k => if p (wy ws k) = true then nb bs k else 0).sum := sum_filter _ _ _
theorem sum_le {f g : Nat → Int} : ∀ {l : List Nat}, (∀ k ∈ l, f k ≤ g k) → (l.map f).sum ≤ (l.map g).sum
  | [], _ => Int.le_refl _
  | a :: r, h => by
    rw [List.map_cons, List.map_cons, List.sum_cons, List.sum_cons]
    have h1 := h a (List.mem_cons_self ..)
    have h2 := sum_le fun k hk => h k (List.mem_cons_of_mem a hk)
    omega
def b1 (b : Bool) : Nat := if b then 1 else 0
/-- two and two -/
theorem fs_22 {ws : List Way} {bs : List Int} {p q r t : Way → Bool} (h : ∀ y ∈ ws, b1 (p y) + b1 (q y) = b1 (r y) + b1 (t y)) : fs ws bs p + fs ws bs q = fs ws bs r + fs ws bs t := by
  rw [fs_ite, fs_ite, fs_ite, fs_ite, ← sum_add, ← sum_add]
  congr 1
  refine List.map_congr_left fun k hk => ?_
  have z := h _ (wy_mem (List.mem_range.mp hk))
  unfold b1 at z
  cases hp : p (wy ws k) <;> cases hq : q (wy ws k) <;> cases hr : r (wy ws k) <;> cases ht : t (wy ws k) <;> simp [hp, hq, hr, ht] at z ⊢
theorem fs_21 {ws : List Way} {bs : List Int} {p q r : Way → Bool} (h : ∀ y ∈ ws, b1 (p y) + b1 (q y) = b1 (r y)) : fs ws bs p + fs ws bs q = fs ws bs r := by
  have z := fs_22 (bs := bs) (p := p) (q := q) (r := r) (t := fun _ => false) (fun y hy => by rw [h y hy]; rfl)
  have e : fs ws bs (fun _ => false) = 0 := by unfold fs; rw [List.filter_eq_nil_iff.mpr (fun _ _ => Bool.false_ne_true)]; rfl
  rw [e, Int.add_zero] at z
  exact z
theorem fs_congr {ws : List Way} {bs : List Int} {p q : Way → Bool} (h : ∀ y ∈ ws, p y = q y) : fs ws bs p = fs ws bs q := by
  unfold fs
  congr 2
  refine List.filter_congr fun k hk => h _ (wy_mem (List.mem_range.mp hk))
theorem fs_le {ws : List Way} {bs : List Int} {p q : Way → Bool} (h0 : ∀ k, k < ws.length → 0 ≤ nb bs k) (h : ∀ y ∈ ws, p y = true → q y = true) : fs ws bs p ≤ fs ws bs q := by
  rw [fs_ite, fs_ite]
  refine sum_le fun k hk => ?_
  have hk := List.mem_range.mp hk
  have z := h _ (wy_mem hk)
  have z0 := h0 k hk
  cases hp : p (wy ws k) with
  | true => rw [z hp]; exact Int.le_refl _
  | false =>
    rw [if_neg Bool.false_ne_true]
    split
    · exact z0
    · exact Int.le_refl _
theorem sumAt_fs (ws : List Way) (bs : List Int) (sd : Nat) (o : Option Nat) : sumAt ws bs sd o = fs ws bs fun y => decide (y.side sd = o) := rfl
/-- ends in a lot of houses -/
def inL (L : List Nat) (o : Option Nat) : Bool := match o with
  | none => false
  | some h => decide (h ∈ L)
theorem fs_lot {ws : List Way} {bs : List Int} {sd : Nat} : ∀ {L : List Nat}, L.Nodup → (L.map fun h => sumAt ws bs sd (some h)).sum = fs ws bs fun y => inL L (y.side sd)
  | [], _ => by
    have e : fs ws bs (fun y => inL [] (y.side sd)) = 0 := by
      unfold fs
      rw [List.filter_eq_nil_iff.mpr (fun k _ => by cases h : (wy ws k).side sd <;> simp [inL, h])]
      rfl
    rw [e]; rfl
  | h :: L, nd => by
    obtain ⟨n1, n2⟩ := List.nodup_cons.mp nd
    rw [List.map_cons, List.sum_cons, fs_lot n2, sumAt_fs]
    refine fs_21 fun y _ => ?_
    cases hs : y.side sd with
    | none => rfl
    | some x =>
      by_cases c : x = h
      · subst c; simp [b1, inL, n1]
      · by_cases c2 : x ∈ L <;> simp [b1, inL, c, c2]
theorem Strm.nb0 {ws : List Way} {bs : List Int} (st : Strm ws bs) (k : Nat) (h : k < ws.length) : 0 ≤ nb bs k ∧ nb bs k ≤ (wy ws k).r := by
  have hb := nb_get (bs := bs) (k := k) (by rw [st.len]; exact h)
  exact ⟨st.lo _ _ hb, st.hi _ _ _ hb (wy_get h)⟩
theorem Strm.evenAt {ws : List Way} {bs : List Int} (st : Strm ws bs) (h : Nat) : sumAt ws bs 0 (some h) = sumAt ws bs 1 (some h) := by
  rw [← side_wy, ← side_wy]; exact (st.even h).symm
theorem Strm.pos {ws : List Way} {bs : List Int} (st : Strm ws bs) : (bs.all fun x => decide (0 ≤ x)) = true := by
  rw [List.all_eq_true]
  intro x hx
  obtain ⟨k, hk, rfl⟩ := List.getElem_of_mem hx
  exact decide_eq_true (st.lo k _ (List.getElem?_eq_getElem hk))
theorem Strm.fault {w : Web} {bs : List Int} (st : Strm w.ws bs) : faultD w bs = .non := by
  unfold faultD
  have h1 : roomF w.ws bs = none := by
    unfold roomF
    rw [List.find?_eq_none]
    intro k hk
    have z := st.nb0 k (List.mem_range.mp hk)
    simp [z.1, z.2]
  have h2 : houseF w.n w.ws bs = none := by
    unfold houseF
    rw [List.find?_eq_none]
    intro h _
    simp [st.evenAt h]
  rw [if_pos st.pos, h1, h2]
section
variable {ws : List Way} {bs : List Int}
/-- as much comes into a lot as goes out of it -/
theorem Strm.lot (st : Strm ws bs) {L : List Nat} (nd : L.Nodup) : fs ws bs (fun y => inL L y.b && !inL L y.e) = fs ws bs fun y => inL L y.e && !inL L y.b := by
  have e0 : fs ws bs (fun y => inL L y.b) = fs ws bs fun y => inL L y.e := by
    have a := fs_lot (ws := ws) (bs := bs) (sd := 0) nd
    have b := fs_lot (ws := ws) (bs := bs) (sd := 1) nd
    have c : (L.map fun h => sumAt ws bs 0 (some h)) = L.map fun h => sumAt ws bs 1 (some h) := List.map_congr_left fun h _ => st.evenAt h
    rw [c] at a
    exact a.symm.trans b
  have e1 : fs ws bs (fun y => inL L y.b && !inL L y.e) + fs ws bs (fun y => inL L y.e) = fs ws bs (fun y => inL L y.e && !inL L y.b) + fs ws bs fun y => inL L y.b :=
    fs_22 fun y _ => by cases inL L y.b <;> cases inL L y.e <;> rfl
  omega
def inO (L : List Nat) (o : Option Nat) : Bool := inL L o || decide (o = none)
theorem Strm.cross (st : Strm ws bs) {n : Nat} (ok : ∀ y ∈ ws, y.Ok n) {L : List Nat} (nd : L.Nodup) : fs ws bs (fun y => inO L y.b && !inL L y.e) - fs ws bs (fun y => inL L y.e && !inO L y.b) = sumAt ws bs 0 none := by
  have e0 : fs ws bs (fun y => inL L y.b) = fs ws bs fun y => inL L y.e := by
    have a := fs_lot (ws := ws) (bs := bs) (sd := 0) nd
    have b := fs_lot (ws := ws) (bs := bs) (sd := 1) nd
    have c : (L.map fun h => sumAt ws bs 0 (some h)) = L.map fun h => sumAt ws bs 1 (some h) := List.map_congr_left fun h _ => st.evenAt h
    rw [c] at a
    exact a.symm.trans b
  have e1 : sumAt ws bs 0 none + fs ws bs (fun y => inL L y.b) = fs ws bs (fun y => inO L y.b) := by
    rw [sumAt_fs]
    refine fs_21 fun y _ => ?_
    show b1 (decide (y.b = none)) + b1 (inL L y.b) = b1 (inO L y.b)
    cases y.b <;> simp [inO, inL, b1]
  have e2 : fs ws bs (fun y => inO L y.b && !inL L y.e) + fs ws bs (fun y => inL L y.e) = fs ws bs (fun y => inL L y.e && !inO L y.b) + fs ws bs fun y => inO L y.b :=
    fs_22 fun y _ => by cases inO L y.b <;> cases inL L y.e <;> rfl
  omega
end
/-! ### membership in a lot -/
section
variable {M : Mem}
theorem intsD_flat (L : List Nat) : (intsD L).all D.flat = true := List.all_eq_true.mpr fun d hd => by obtain ⟨x, _, rfl⟩ := List.mem_map.mp hd; rfl
theorem any_end (L : List Nat) (o : Option Nat) : ((intsD L).any fun y => eqF y (endD o)) = inL L o := by
  rw [Bool.eq_iff_iff, List.any_eq_true]
  constructor
  · rintro ⟨d, hd, e⟩
    obtain ⟨x, hx, rfl⟩ := List.mem_map.mp hd
    cases o with
    | none => cases e
    | some h =>
      have e : ((x : Int) = (h : Int)) := of_decide_eq_true e
      have : x = h := by omega
      subst this
      exact decide_eq_true hx
  · intro h
    cases o with
    | none => cases h
    | some h2 => exact ⟨.int (h2 : Nat), List.mem_map.mpr ⟨h2, of_decide_eq_true h, rfl⟩, decide_eq_true rfl⟩
theorem inRef {q : Nat} {L : List Nat} (hq : M[q]? = some (.lst (intsD L))) (o : Option Nat) : cmpW .inn M (.v (endD o)) (.v (.ref q)) = some (inL L o) := by
  have z : inQ M (.v (endD o)) (.v (.ref q)) = some ((intsD L).any fun y => eqF y (endD o)) := by
    simp only [inQ, asQ, asT, asL, hq]
    exact if_pos ⟨end_flat' o, intsD_flat L⟩
  have z2 : cmpW .inn M (.v (endD o)) (.v (.ref q)) = inQ M (.v (endD o)) (.v (.ref q)) := by simp only [cmpW]
  rw [z2, z, any_end]
where end_flat' (o : Option Nat) : (endD o).flat = true := by cases o <;> rfl
theorem ninRef {q : Nat} {L : List Nat} (hq : M[q]? = some (.lst (intsD L))) (o : Option Nat) : cmpW .notin M (.v (endD o)) (.v (.ref q)) = some (!inL L o) := by
  have z := inRef hq o
  have z2 : cmpW .inn M (.v (endD o)) (.v (.ref q)) = inQ M (.v (endD o)) (.v (.ref q)) := by simp only [cmpW]
  rw [z2] at z
  simp only [cmpW, z, Option.map_some]
theorem inFlO {L : List Nat} (o : Option Nat) : cmpW .inn M (.v (endD o)) (.fl (intsD L ++ [D.non])) = some (inO L o) := by
  have hf : (intsD L ++ [D.non]).all D.flat = true := by rw [List.all_append, intsD_flat]; rfl
  have z : inQ M (.v (endD o)) (.fl (intsD L ++ [D.non])) = some ((intsD L ++ [D.non]).any fun y => eqF y (endD o)) := by
    simp only [inQ, asQ, asT, asL]
    exact if_pos ⟨by cases o <;> rfl, hf⟩
  have z2 : cmpW .inn M (.v (endD o)) (.fl (intsD L ++ [D.non])) = inQ M (.v (endD o)) (.fl (intsD L ++ [D.non])) := by simp only [cmpW]
  rw [z2, z, List.any_append, any_end]
  congr 1
  unfold inO
  congr 1
  cases o <;> rfl
theorem ninFlO {L : List Nat} (o : Option Nat) : cmpW .notin M (.v (endD o)) (.fl (intsD L ++ [D.non])) = some (!inO L o) := by
  have z := inFlO (M := M) (L := L) o
  have z2 : cmpW .inn M (.v (endD o)) (.fl (intsD L ++ [D.non])) = inQ M (.v (endD o)) (.fl (intsD L ++ [D.non])) := by simp only [cmpW]
  rw [z2] at z
  simp only [cmpW, z, Option.map_some]
end
/-! ### drawn lots -/
theorem lot_comp {C : Cl} {nx t : Nat} {s : Env} {B : Nat} {X M : Mem} {y : Web} {hs rs : Nat} (yo : y.Ok hs rs) (hh : hs ≤ 100) (hn : Nx C nx) (h1 : s[1]? = some (some (.ref 3))) (h3 : s[3]? = some (some y.d)) (ht : t < s.length) (ht1 : t ≠ 1) (hB : B + 1000 < 2 ^ 60) (h : Dk B X M) :
    Ok (evE C (.comp (.var t) (.nm t) (.rng1 (.len (.ix (.var 3) (.num 1)))) (.some (.cmp .eq (.call nx (.cons (.var 1) (.cons (.num 2) .nil))) (.num 0))) [t]) s M) fun w M' => ∃ L : List Nat, w = .fl (intsD L) ∧ L.Nodup ∧ (∀ x ∈ L, x < y.n) ∧ Dk (B + 100) X M' := by
  have hn2 := yo.n2
  refine Ok.comp (Ok.of (itR (n := y.n) (by omega) (xLn (xIx (xV h3) xN (web1 y)) (by rw [lenT, List.length_map, yo.h0]))) ?_)
  refine compL_ok (fun i acc M1 => ∃ L : List Nat, acc = intsD L ∧ L.Nodup ∧ (∀ x ∈ L, x < i) ∧ Dk (B + i) X M1) ?_ ?_ ⟨[], rfl, List.nodup_nil, (fun x hx => by cases hx), h⟩
  · rintro i d acc M1 hd ⟨L, rfl, nd, hl, h2⟩
    obtain ⟨rfl, hi⟩ := at_range hd
    have e1 : ((wipeE s [t]).set t (some (D.int (i : Nat))))[1]? = some (some (.ref 3)) := by
      show ((s.set t none).set t (some (D.int (i : Nat))))[1]? = _
      rw [List.set_set, List.getElem?_set_ne ht1]; exact h1
    have et : ((wipeE s [t]).set t (some (D.int (i : Nat))))[t]? = some (some (.int (i : Nat))) := by
      show ((s.set t none).set t (some (D.int (i : Nat))))[t]? = _
      rw [List.set_set, List.getElem?_set_self ht]
    simp only [asgT]
    rw [evT, rbind_assoc]
    refine Ok.bind (coin_ok hn e1 (by decide) (by decide) (by omega) h2) fun w M2 ⟨b, e, h3⟩ => ?_
    subst e
    cases b with
    | false => exact .ret ⟨srcNil _, L, by simp, nd, fun x hx => Nat.lt_succ_of_lt (hl x hx), h3.mono (by omega)⟩
    | true =>
      show Ok ((evE C (.var t) _ M2).put.bind _) _
      rw [xV et, put_v, rbind_ok]
      refine .ret ⟨srcNil _, L ++ [i], ?_, ?_, ?_, h3.mono (by omega)⟩
      · show intsD L ++ [.int (i : Nat)] = _
        unfold intsD; rw [List.map_append]; rfl
      · rw [List.nodup_append]
        exact ⟨nd, by simp, fun a ha b hb => by rw [List.mem_singleton.mp hb]; have := hl a ha; omega⟩
      · intro x hx
        rcases List.mem_append.mp hx with hx | hx
        · exact Nat.lt_succ_of_lt (hl x hx)
        · rw [List.mem_singleton.mp hx]; exact Nat.lt_succ_self _
  · rintro acc M1 ⟨L, rfl, nd, hl, h2⟩
    rw [List.length_map, List.length_range] at hl h2
    exact ⟨L, rfl, nd, hl, h2.mono (by omega)⟩
section
variable {C : Cl} {e : E} {s : Env} {M M1 : Mem}
theorem biV2T {f : Bi} {l : List D} : biV2 f M (.v (.tup l)) = biW f l := by unfold biV2; rw [if_pos (.inl (by cases f <;> rfl))]; rfl
theorem bSumT {l : List Int} (h : evE C e s M = .ok (.v (.tup (l.map .int))) M1) : evE C (.bi .sum (.val e)) s M = .ok (.v (.int l.sum)) M1 := by
  rw [evE, h, rbind_ok, biV2T, biW, ints_of]; rfl
theorem bMinT {l : List Int} {m : Int} (hm : minI l = some m) (h : evE C e s M = .ok (.v (.tup (l.map .int))) M1) : evE C (.bi .min (.val e)) s M = .ok (.v (.int m)) M1 := by
  rw [evE, h, rbind_ok, biV2T, biW, ints_of, Option.bind_some, hm]; rfl
theorem bAllT {l : List Bool} (h : evE C e s M = .ok (.v (.tup (l.map .bl))) M1) : evE C (.bi .all (.val e)) s M = .ok (.v (.bl (l.all id))) M1 := by
  rw [evE, h, rbind_ok, biV2T, biW, bls_of]; rfl
theorem bAnyT {l : List Bool} (h : evE C e s M = .ok (.v (.tup (l.map .bl))) M1) : evE C (.bi .any (.val e)) s M = .ok (.v (.bl (l.any id))) M1 := by
  rw [evE, h, rbind_ok, biV2T, biW, bls_of]; rfl
end
end Ev

/-! EvG5: rows compared; streams added. -/
namespace Ev
open PySem
theorem eqvAll_ints : ∀ l r : List Int, PyData.eqvAll (l.map .int) (r.map .int) = decide (l = r)
  | [], [] => rfl
  | [], _ :: _ => rfl
  | _ :: _, [] => rfl
  | a :: l, b :: r => by
    rw [List.map_cons, List.map_cons, PyData.eqvAll, eqvAll_ints l r, PyData.eqv]
    by_cases h : a = b
    · subst h; simp
    · simp [h]
theorem depth_ints : ∀ l : List Int, PyData.depthAll (l.map .int) ≤ 1
  | [] => by rw [List.map_nil, PyData.depthAll]; omega
  | a :: l => by
    have := depth_ints l
    rw [List.map_cons, PyData.depthAll, PyData.depth]
    omega
theorem pd_ints (M : Mem) (l : List Int) : pdD M (.tup (l.map .int)) = some (.tuple (l.map .int)) := by
  unfold pdD
  rw [D.pdR, pds_ints]
theorem pdEqT (l r : List Int) : pdEq (some (.tuple (l.map .int))) (some (.tuple (r.map .int))) = some (decide (l = r)) := by
  have h1 : (PyData.tuple (l.map .int)).canLay0 = true := lay_ints l
  have h2 : (PyData.tuple (r.map .int)).canLay0 = true := lay_ints r
  have h3 : min (PyData.tuple (l.map .int)).depth (PyData.tuple (r.map .int)).depth ≤ 64 := by
    have := depth_ints l
    rw [PyData.depth, PyData.depth]
    omega
  unfold pdEq
  simp only [h1, h2, h3, and_self, if_true]
  rw [PyData.eqv, eqvAll_ints]
theorem pdEqL (l r : List Int) : pdEq (some (.list (l.map .int))) (some (.list (r.map .int))) = some (decide (l = r)) := by
  have h1 : (PyData.list (l.map .int)).canLay0 = true := lay_ints l
  have h2 : (PyData.list (r.map .int)).canLay0 = true := lay_ints r
  have h3 : min (PyData.list (l.map .int)).depth (PyData.list (r.map .int)).depth ≤ 64 := by
    have := depth_ints l
    rw [PyData.depth, PyData.depth]
    omega
  unfold pdEq
  simp only [h1, h2, h3, and_self, if_true]
  rw [PyData.eqv, eqvAll_ints]
section
variable {M : Mem}
theorem eqW_pd {x y : D} {r : Bool} (h1 : scalEq x y = none) (h2 : pdEq (pdD M x) (pdD M y) = some r) : eqW M (.v x) (.v y) = some r := by
  simp only [eqW, h1, h2]
theorem eqTI (l r : List Int) : eqW M (.v (.tup (l.map .int))) (.v (.tup (r.map .int))) = some (decide (l = r)) := eqW_pd rfl (by rw [pd_ints, pd_ints, pdEqT])
theorem cmpEqTI (l r : List Int) : cmpW .eq M (.v (.tup (l.map .int))) (.v (.tup (r.map .int))) = some (decide (l = r)) := eqTI l r
theorem cmpNeTI (l r : List Int) : cmpW .ne M (.v (.tup (l.map .int))) (.v (.tup (r.map .int))) = some (!decide (l = r)) := by
  have z := eqTI (M := M) l r
  simp only [cmpW, z, Option.map_some]
theorem cmpNeFI (l r : List Int) : cmpW .ne M (.fl (l.map .int)) (.fl (r.map .int)) = some (!decide (l = r)) := by
  have z : eqW M (.fl (l.map .int)) (.fl (r.map .int)) = some (decide (l = r)) := by
    have e : eqW M (.fl (l.map .int)) (.fl (r.map .int)) = pdEq (pdW M (.fl (l.map .int))) (pdW M (.fl (r.map .int))) := by simp only [eqW]
    rw [e, pdW, pdW, pds_ints, pds_ints]
    exact pdEqL l r
  simp only [cmpW, z, Option.map_some]
theorem cmpNeI (i j : Int) : cmpW .ne M (.v (.int i)) (.v (.int j)) = some (!decide (i = j)) := rfl
theorem cmpEqI (i j : Int) : cmpW .eq M (.v (.int i)) (.v (.int j)) = some (decide (i = j)) := rfl
theorem cmpNeB (i j : Bool) : cmpW .ne M (.v (.bl i)) (.v (.bl j)) = some (!decide (i = j)) := rfl
/-- a list at its place, and an empty one -/
theorem cmpNeNil {q : Nat} {l : List Int} (hq : M[q]? = some (.lst (l.map .int))) : cmpW .ne M (.v (.ref q)) (.fl []) = some (!decide (l = [])) := by
  have e : eqW M (.v (.ref q)) (.fl []) = pdEq (pdW M (.v (.ref q))) (pdW M (.fl [])) := by simp only [eqW]
  have p : pdW M (.v (.ref q)) = some (.list (l.map .int)) := by
    simp only [pdW, pdD, D.pdR, refPd, hq, pds_ints]
  have z : eqW M (.v (.ref q)) (.fl []) = some (decide (l = [])) := by
    rw [e, p]
    exact pdEq_nil l
  simp only [cmpW, z, Option.map_some]
end
theorem mem_row {M : Mem} (l : List Nat) (k : Nat) : cmpW .inn M (.v (.int (k : Nat))) (.v (.tup (intsD l))) = some (decide (k ∈ l)) := by
  have z : inQ M (.v (.int (k : Nat))) (.v (.tup (intsD l))) = some ((intsD l).any fun y => eqF y (.int (k : Nat))) := if_pos ⟨rfl, intsD_flat l⟩
  have z2 : cmpW .inn M (.v (.int (k : Nat))) (.v (.tup (intsD l))) = inQ M (.v (.int (k : Nat))) (.v (.tup (intsD l))) := by simp only [cmpW]
  rw [z2, z]
  exact congrArg some (any_end l (some k))
/-! ### two added -/
def plusL (a b : List Int) : List Int := (List.range a.length).map fun k => nb a k + nb b k
def minusL (a b : List Int) : List Int := (List.range a.length).map fun k => nb a k - nb b k
theorem nb_range {n k : Nat} {f : Nat → Int} (h : k < n) : nb ((List.range n).map f) k = f k := by
  unfold nb
  rw [List.getElem?_map, List.getElem?_range h]
  rfl
theorem plusL_len (a b : List Int) : (plusL a b).length = a.length := by simp [plusL]
theorem minusL_len (a b : List Int) : (minusL a b).length = a.length := by simp [minusL]
theorem sumAt_add {ws : List Way} {a b : List Int} (ha : a.length = ws.length) (sd : Nat) (o : Option Nat) : sumAt ws (plusL a b) sd o = sumAt ws a sd o + sumAt ws b sd o := by
  unfold sumAt
  rw [← sum_add]
  congr 1
  refine List.map_congr_left fun k hk => ?_
  have hk2 : k < a.length := by rw [ha]; exact List.mem_range.mp (List.mem_filter.mp hk).1
  exact nb_range hk2
theorem sumAt_sub {ws : List Way} {a b : List Int} (ha : a.length = ws.length) (sd : Nat) (o : Option Nat) : sumAt ws (minusL a b) sd o = sumAt ws a sd o - sumAt ws b sd o := by
  have e : sumAt ws a sd o = sumAt ws (minusL a b) sd o + sumAt ws b sd o := by
    unfold sumAt
    rw [← sum_add]
    congr 1
    refine List.map_congr_left fun k hk => ?_
    have hk2 : k < a.length := by rw [ha]; exact List.mem_range.mp (List.mem_filter.mp hk).1
    have z : nb (minusL a b) k = nb a k - nb b k := nb_range hk2
    omega
  omega
theorem all_nb {l : List Int} : (l.all fun x => decide (0 ≤ x)) = true ↔ ∀ k, k < l.length → 0 ≤ nb l k := by
  rw [List.all_eq_true]
  constructor
  · intro h k hk
    exact of_decide_eq_true (h _ (nb_mem hk))
  · intro h x hx
    obtain ⟨k, hk, rfl⟩ := List.getElem_of_mem hx
    have z := h k hk
    unfold nb at z
    rw [List.getElem?_eq_getElem hk] at z
    exact decide_eq_true z
/-- no house at fault -/
theorem houseF_none {n : Nat} {ws : List Way} {bs : List Int} (h : ∀ x, sumAt ws bs 0 (some x) = sumAt ws bs 1 (some x)) : houseF n ws bs = none := by
  unfold houseF
  rw [List.find?_eq_none]
  intro x _
  simp [h x]
theorem fault_even {w : Web} {bs : List Int} (hp : (bs.all fun x => decide (0 ≤ x)) = true) (h : ∀ x, sumAt w.ws bs 0 (some x) = sumAt w.ws bs 1 (some x)) : faultD w bs = match roomF w.ws bs with
    | some k => tagD "room" k
    | none => .non := by
  unfold faultD
  refine (if_pos hp).trans ?_
  have e := houseF_none (n := w.n) h
  cases roomF w.ws bs with
  | some k => rfl
  | none =>
    show (match houseF w.n w.ws bs with | some x => tagD "house" x | none => D.non) = D.non
    rw [e]
/-! ### a stream drawn, as an expression -/
section
variable {defs : List FD} {glb : Nat → D} {fuel : Nat} {dk nx on rm od rd wb : Nat} {s : Env} {B : Nat} {X M : Mem}
theorem HarnA.streamE (H : HarnA defs dk nx on rm od rd wb) (hf : 200 ≤ fuel) {ro st : Nat} (e8 : ∃ ns, defs[ro]? = some ⟨3, ns, roundB nx on⟩ ∧ ns = 11) (e9 : defs[st]? = some ⟨3, 9, streamB nx on ro⟩) {n hs rs u : Nat} {w : Web} (ok : w.Ok hs rs) (hh : hs ≤ 100) (hrs : rs ≤ 100) {m : Nat} (hm0 : 0 < m) (hm : m ≤ 1000)
    (h1 : s[1]? = some (some (.ref 3))) (h3 : s[u]? = some (some w.d)) (hB : B + 3000000 < 2 ^ 60) (hd : Dk B X M) :
    Ok (evE (lvl defs glb fuel (n + 5)) (.call st (.cons (.var 1) (.cons (.var u) (.cons (.call nx (.cons (.var 1) (.cons (.num m) .nil))) .nil)))) s M) fun x M' => ∃ bs : List Int, x = .v (.tup (bs.map .int)) ∧ Strm w.ws bs ∧ Dk (B + 300001) X M' := by
  refine Ok.call ?_
  rw [evEs, evE, h1]
  simp only [rbind_ok, Res.put, put]
  rw [evEs, evE, h3]
  simp only [rbind_ok, Res.put, put]
  rw [evEs]
  simp only [Res.put, rbind_assoc]
  refine Ok.bind (draw_ok (H.next hf (n + 4)) h1 (m := (m : Int)) (by omega) (by omega) (by omega) hd) fun w2 M1 ⟨v, e, hv, h2⟩ => ?_
  subst e
  simp only [evEs, rbind_ok, put]
  refine .ret ((H.stream hf e8 e9 (n + 1) ok hh hrs (m := v) (by omega) (by omega) h2).mono fun w2 M2 ⟨bs, e, st, h4⟩ => ⟨bs, e, st, h4.mono (by omega)⟩)
end
end Ev

/-! EvK1: streams taken apart: what leads on. -/
namespace Ev
open PySem
theorem bgn_wy (ws : List Way) (k : Nat) : bgn ws k = (wy ws k).b := by unfold bgn wy; cases ws[k]? <;> rfl
theorem fin_wy (ws : List Way) (k : Nat) : Ev.fin ws k = (wy ws k).e := by unfold Ev.fin wy; cases ws[k]? <;> rfl
/-- rooms with which all roads may bear more -/
def Z (ws : List Way) : List Int := ws.map fun w => w.r - 1
theorem lit_Z {ws : List Way} {k : Nat} (h : k < ws.length) : Lit ws (Z ws) k := ⟨ws[k], ws[k].r - 1, List.getElem?_eq_getElem h, by unfold Z; rw [List.getElem?_map, List.getElem?_eq_getElem h]; rfl, by omega⟩
theorem lit_lt {ws : List Way} {bs : List Int} {k : Nat} (h : Lit ws bs k) : k < ws.length := by obtain ⟨y, x, e, _, _⟩ := h; exact (List.getElem?_eq_some_iff.mp e).1
structure Flow (ws : List Way) (bs : List Int) : Prop where
  len : bs.length = ws.length
  pos : ∀ k, k < ws.length → 0 ≤ nb bs k
  even : ∀ h, sumAt ws bs 0 (some h) = sumAt ws bs 1 (some h)
theorem Strm.flow {ws : List Way} {bs : List Int} (st : Strm ws bs) : Flow ws bs := ⟨st.len, fun k h => (st.nb0 k h).1, st.evenAt⟩
theorem sum_zero {f : Nat → Int} : ∀ {l : List Nat}, (∀ x ∈ l, f x = 0) → (l.map f).sum = 0
  | [], _ => rfl
  | a :: r, h => by rw [List.map_cons, List.sum_cons, h a (List.mem_cons_self ..), sum_zero fun x hx => h x (List.mem_cons_of_mem _ hx)]; rfl
theorem mem_le_sum {f : Nat → Int} : ∀ {l : List Nat} {k : Nat}, (∀ x ∈ l, 0 ≤ f x) → k ∈ l → f k ≤ (l.map f).sum
  | a :: r, k, h, hk => by
    have h0 := h a (List.mem_cons_self ..)
    have hr : 0 ≤ (r.map f).sum := by
      have z := sum_le (f := fun _ => 0) (g := f) (l := r) fun x hx => h x (List.mem_cons_of_mem _ hx)
      have e : (r.map fun _ : Nat => (0 : Int)).sum = 0 := sum_zero fun _ _ => rfl
      omega
    rw [List.map_cons, List.sum_cons]
    rcases List.mem_cons.mp hk with rfl | hk
    · omega
    · have := mem_le_sum (fun x hx => h x (List.mem_cons_of_mem _ hx)) hk
      omega
section
variable {ws : List Way} {bs : List Int}
theorem le_sumAt (h0 : ∀ k, k < ws.length → 0 ≤ nb bs k) {k sd : Nat} {o : Option Nat} (hk : k < ws.length) (e : (wy ws k).side sd = o) : nb bs k ≤ sumAt ws bs sd o :=
  mem_le_sum (fun x hx => h0 x (List.mem_range.mp (List.mem_filter.mp hx).1)) (List.mem_filter.mpr ⟨List.mem_range.mpr hk, decide_eq_true e⟩)
theorem sumAt_zero {sd : Nat} {o : Option Nat} (h : ∀ k, k < ws.length → (wy ws k).side sd = o → nb bs k = 0) : sumAt ws bs sd o = 0 :=
  sum_zero fun x hx => h x (List.mem_range.mp (List.mem_filter.mp hx).1) (of_decide_eq_true (List.mem_filter.mp hx).2)
theorem flow_doors (even : ∀ h, sumAt ws bs 0 (some h) = sumAt ws bs 1 (some h)) {n : Nat} (ok : ∀ y ∈ ws, y.Ok n) : sumAt ws bs 0 none = sumAt ws bs 1 none := by
  have a := fs_lot (ws := ws) (bs := bs) (sd := 0) (L := List.range n) List.nodup_range
  have b := fs_lot (ws := ws) (bs := bs) (sd := 1) (L := List.range n) List.nodup_range
  have c : ((List.range n).map fun h => sumAt ws bs 0 (some h)) = (List.range n).map fun h => sumAt ws bs 1 (some h) := List.map_congr_left fun h _ => even h
  rw [c] at a
  have t : ∀ sd, (∀ y ∈ ws, ∀ x, y.side sd = some x → x < n) → sumAt ws bs sd none + fs ws bs (fun y => inL (List.range n) (y.side sd)) = fs ws bs fun _ => true := fun sd hs => by
    rw [sumAt_fs]
    refine fs_21 fun y hy => ?_
    cases h : y.side sd with
    | none => simp [b1, inL]
    | some x => simp [b1, inL, hs y hy x h]
  have t0 := t 0 fun y hy x h => (ok y hy).side 0 x h
  have t1 := t 1 fun y hy x h => (ok y hy).side 1 x h
  omega
theorem Flow.noOut (fl : Flow ws bs) {n : Nat} (ok : ∀ y ∈ ws, y.Ok n) (h : ∀ k, k < ws.length → bgn ws k = none → nb bs k = 0) (k : Nat) (hk : k < ws.length) (e : Ev.fin ws k = none) : nb bs k = 0 := by
  have z0 : sumAt ws bs 0 none = 0 := sumAt_zero fun j hj ej => h j hj (by rw [bgn_wy]; exact ej)
  have z1 := flow_doors fl.even ok
  have z2 := le_sumAt (sd := 1) (o := none) fl.pos hk (by rw [fin_wy] at e; exact e)
  have z3 := fl.pos k hk
  omega
def nextR (ws : List Way) (bs : List Int) (h : Nat) : List Nat := (List.range ws.length).filter fun k => decide ((wy ws k).b = some h) && decide (0 < nb bs k)
theorem Flow.next (fl : Flow ws bs) {k h : Nat} (hk : k < ws.length) (h0 : 0 < nb bs k) (e : Ev.fin ws k = some h) : ∃ j r, nextR ws bs h = j :: r ∧ j < ws.length ∧ bgn ws j = some h ∧ 0 < nb bs j := by
  cases hn : nextR ws bs h with
  | nil =>
    have z0 : sumAt ws bs 0 (some h) = 0 := sumAt_zero fun j hj ej => by
      have z := List.filter_eq_nil_iff.mp hn j (List.mem_range.mpr hj)
      have ej : (wy ws j).b = some h := ej
      have := fl.pos j hj
      simp [ej] at z
      omega
    have z1 := le_sumAt (sd := 1) (o := some h) fl.pos hk (by rw [fin_wy] at e; exact e)
    have z2 := fl.even h
    omega
  | cons j r =>
    have hj : j ∈ nextR ws bs h := by rw [hn]; exact List.mem_cons_self ..
    have hm := List.mem_filter.mp hj
    rw [Bool.and_eq_true, decide_eq_true_eq, decide_eq_true_eq] at hm
    exact ⟨j, r, rfl, List.mem_range.mp hm.1, by rw [bgn_wy]; exact hm.2.1, hm.2.2⟩
end
/-! ### lists at their places -/
section
variable {C : Cl} {s : Env} {M A : Mem}
theorem get_mid {o : O} {Y : Mem} {q : Nat} (e : q = A.length) : (A ++ o :: Y)[q]? = some o := by subst e; rw [List.getElem?_append_right (Nat.le_refl _), Nat.sub_self]; rfl
theorem set_mid {o o' : O} {Y : Mem} {q : Nat} (e : q = A.length) : (A ++ o :: Y).set q o' = A ++ o' :: Y := by subst e; rw [List.set_append_right _ _ (Nat.le_refl _), Nat.sub_self]; rfl
theorem get_snd {o p : O} {Y : Mem} {q : Nat} (e : q = A.length + 1) : (A ++ o :: p :: Y)[q]? = some p := by
  have z : A ++ o :: p :: Y = (A ++ [o]) ++ p :: Y := by simp
  rw [z]; exact get_mid (by simp [e])
theorem set_snd {o p p' : O} {Y : Mem} {q : Nat} (e : q = A.length + 1) : (A ++ o :: p :: Y).set q p' = A ++ o :: p' :: Y := by
  have z : ∀ p : O, A ++ o :: p :: Y = (A ++ [o]) ++ p :: Y := fun p => by simp
  rw [z, z]; exact set_mid (by simp [e])
theorem yApp {o x : E} {q : Nat} {d : D} {l : List D} {r : Ss} {P : Fl → Mem → Prop} (ho : evE C o s M = .ok (.v (.ref q)) M) (hq : M[q]? = some (.lst l)) (hx : evE C x s M = .ok (.v d) M) (hl : l.length ≤ 1000)
    (k : Ok (evSs C r s (M.set q (.lst (l ++ [d])))) P) : Ok (evSs C (.cons (.expr (.app o x)) r) s M) P := by
  refine Ok.cons (Ok.ex (Ok.app (Ok.of ho ⟨?_, Ok.of hx ⟨q, l, rfl, hq, by omega, k⟩⟩)))
  simp only [recL, hq]
theorem xNg {a : E} {i : Int} (h : evE C a s M = .ok (.v (.int i)) M) : evE C (.neg a) s M = .ok (.v (.int (-i))) M := by rw [evE, h]; rfl
theorem ixLast {q : Nat} {l : List D} {d : D} (hq : M[q]? = some (.lst (l ++ [d]))) : ixW M (.v (.ref q)) (.v (.int (-1))) = some (.v d) := by
  simp only [ixW, asQ, asT, asL, hq, atLast, Option.map_some]
theorem inEndsR {q : Nat} {l : List (Option Nat)} (hq : M[q]? = some (.lst (endsD l))) (o : Option Nat) : cmpW .notin M (.v (endD o)) (.v (.ref q)) = some (!decide (o ∈ l)) := by
  have z : inQ M (.v (endD o)) (.v (.ref q)) = some (decide (o ∈ l)) := by
    have z := ends_in M l o
    have e1 : inQ M (.v (endD o)) (.v (.ref q)) = inQ M (.v (endD o)) (.fl (endsD l)) := by simp only [inQ, asQ, asT, asL, hq]
    rw [e1, z]
  simp only [cmpW, z, Option.map_some]
theorem xIdx {o x : E} {q i : Nat} {l : List D} {d : D} (ho : evE C o s M = .ok (.v (.ref q)) M) (hq : M[q]? = some (.lst l)) (hx : evE C x s M = .ok (.v d) M) (hf : d.flat = true ∧ l.all D.flat = true) (hi : (l.findIdx? fun y => eqF y d) = some i) : evE C (.idx o x) s M = .ok (.v (.int (i : Nat))) M := by
  have hr : recQ M (.v (.ref q)) = true := by simp only [recQ, recL, hq, Bool.true_or]
  rw [evE, ho, rbind_ok, if_neg (by rw [hr]; decide), hx, rbind_ok]
  simp only [asQ, asT, asL, hq]
  rw [if_pos hf, hi]
end
/-! ### next_roads, led_on -/
def next_roadsB : Ss := (.cons (.ret (.comp (.var 3) (.tp (.cons (.nm 3) (.cons (.nm 4) .nil))) (.enum (.ix (.var 0) (.num 0))) (.some (.and (.cmp .eq (.ix (.var 4) (.num 0)) (.var 2)) (.cmp .gt (.ix (.var 1) (.var 3)) (.num 0)))) [3, 4]))
  .nil)
def led_onB (f_next_roads : Nat) : Ss := (.cons (.asg (.nm 3) (.lst (.cons (.var 2) .nil)))
  (.cons (.asg (.nm 4) (.lst (.cons (.ix (.ix (.ix (.var 0) (.num 0)) (.var 2)) (.num 0)) .nil)))
  (.cons (.asg (.nm 5) (.ix (.ix (.ix (.var 0) (.num 0)) (.var 2)) (.num 1)))
  (.cons (.whl (.and (.cmp .isnot (.var 5) .non) (.cmp .notin (.var 5) (.var 4)))
  (.cons (.expr (.app (.var 4) (.var 5)))
  (.cons (.expr (.app (.var 3) (.ix (.call f_next_roads (.cons (.var 0) (.cons (.var 1) (.cons (.var 5) .nil)))) (.num 0))))
  (.cons (.asg (.nm 5) (.ix (.ix (.ix (.var 0) (.num 0)) (.ix (.var 3) (.neg (.num 1)))) (.num 1)))
  .nil))))
  (.cons (.ret (.tup (.cons (.var 3) (.cons (.ite (.cmp .isnot (.var 5) .non) (.idx (.var 4) (.var 5)) (.num 0)) .nil))))
  .nil)))))
def IsNext (C : Cl) (f : Nat) : Prop := ∀ {hs rs : Nat} {w : Web} {bs : List Int} {q : Nat} {M : Mem} (h : Nat) (_ : w.Ok hs rs) (_ : bs.length = w.ws.length) (_ : M[q]? = some (.lst (bs.map .int))), C.call f [w.d, .ref q, .int (h : Nat)] M = .ok (.fl (intsD (nextR w.ws bs h))) M
section
variable {C : Cl} {M : Mem} {w : Web} {bs : List Int} {hs rs f q : Nat}
theorem fl_leave {l : List Nat} : leave M (.fl (intsD l)) M = .ok (.fl (intsD l)) M := by
  have hb : W.bel M.length (.fl (intsD l)) = true := by rw [W.bel]; exact pures_bel _ (pures_all fun d hd => by obtain ⟨k, _, rfl⟩ := List.mem_map.mp hd; rfl)
  have hp : Pre M.length M M := fun i o hi e => .inl e
  unfold leave
  rw [if_pos hp, if_pos hb, List.take_length]
theorem next_roads_ok (h : Nat) (ok : w.Ok hs rs) (hb : bs.length = w.ws.length) (hq : M[q]? = some (.lst (bs.map .int))) : runB C ⟨3, 5, next_roadsB⟩ [w.d, .ref q, .int (h : Nat)] M = .ok (.fl (intsD (nextR w.ws bs h))) M := by
  have e : evE C (.comp (.var 3) (.tp (.cons (.nm 3) (.cons (.nm 4) .nil))) (.enum (.ix (.var 0) (.num 0))) (.some (.and (.cmp .eq (.ix (.var 4) (.num 0)) (.var 2)) (.cmp .gt (.ix (.var 1) (.var 3)) (.num 0)))) [3, 4]) [some w.d, some (.ref q), some (.int (h : Nat)), none, none] M = .ok (.fl (intsD (nextR w.ws bs h))) M := by
    refine compP (l := List.range w.ws.length) (a := fun k => .tup [.int (k : Nat), (wy w.ws k).d]) (fun k => decide ((wy w.ws k).b = some h) && decide (0 < nb bs k)) (fun k => .int (k : Nat)) (ss := []) ?_ (srcNil M) fun k hk => ⟨_, rfl, xTS (xAnd (xCm (xIx (xV rfl) xN (wyB _)) (xV rfl) (eqEnd _ _)) fun _ => xCm (xIx (xV rfl) (xV rfl) (ixNbL hq (by rw [hb]; exact List.mem_range.mp hk))) xN rfl), fun _ => xV rfl⟩
    rw [itE (xIx (xV rfl) xN (web0 w)), List.length_map]
    congr 2
    refine List.map_congr_left fun k hk => ?_
    rw [wyD (List.mem_range.mp hk)]
  rw [runB_rt rfl (cons_rt (ret_eq e))]
  exact fl_leave
structure Led (ws : List Way) (bs : List Int) (k0 : Nat) (R : List Nat) : Prop where
  path : Path ws (Z ws) R
  pos : ∀ k ∈ R, 0 < nb bs k
  hd : R.head? = some k0
  tl : none ∉ (R.map (bgn ws)).tail
/-- what led_on tells: a way whole, or a ring from some place on -/
structure Lap (ws : List Way) (bs : List Int) (R : List Nat) (i : Nat) : Prop where
  le : i ≤ R.length
  pos : ∀ k ∈ R, k < ws.length ∧ 0 < nb bs k
  ring : Ring ws (Z ws) (R.drop i)
  kind : ∃ l, R.getLast? = some l ∧ ((Ev.fin ws l = none ∧ i = 0 ∧ (R.map (bgn ws)).head? = some none) ∨ (Ev.fin ws l ≠ none ∧ none ∉ (R.drop i).map (bgn ws)))
theorem Led.more {ws : List Way} {k0 l j h : Nat} {R : List Nat} (L : Led ws bs k0 R) (hl : R.getLast? = some l) (e : Ev.fin ws l = some h) (hn : some h ∉ R.map (bgn ws)) (hj : j < ws.length) (ej : bgn ws j = some h) (h0 : 0 < nb bs j) : Led ws bs k0 (R ++ [j]) := by
  refine ⟨L.path.more hl (lit_Z hj) (ej.trans e.symm) (by rw [e]; exact hn), fun k hk => ?_, ?_, ?_⟩
  · rcases List.mem_append.mp hk with hk | hk
    · exact L.pos k hk
    · rw [List.mem_singleton.mp hk]; exact h0
  · have := L.hd
    cases R with
    | nil => cases this
    | cons a r => exact this
  · have ne := L.path.ne
    have tl := L.tl
    cases R with
    | nil => exact absurd rfl ne
    | cons a r =>
      simp only [List.cons_append, List.map_cons, List.tail_cons, List.map_append, List.map_nil] at tl ⊢
      intro hm
      rcases List.mem_append.mp hm with hm | hm
      · exact tl hm
      · rw [ej] at hm; simp at hm
theorem led_ok (hn : IsNext C f) (hf : 200 ≤ C.fuel) (ok : w.Ok hs rs) (hh : hs ≤ 100) (fl : Flow w.ws bs) (hq : M[q]? = some (.lst (bs.map .int))) {k0 : Nat} (hk : k0 < w.ws.length) (h0 : 0 < nb bs k0)
    (hd : bgn w.ws k0 = none ∨ ∀ k, k < w.ws.length → Ev.fin w.ws k = none → nb bs k = 0) :
    Ok (runB C ⟨3, 6, led_onB f⟩ [w.d, .ref q, .int (k0 : Nat)] M) fun x M' => ∃ (R : List Nat) (i : Nat) (Y : Mem), x = .v (.tup [.ref M.length, .int (i : Nat)]) ∧ M' = M ++ .lst (intsD R) :: Y ∧ Lap w.ws bs R i := by
  have hn2 := ok.n2
  have hb := fl.len
  have hqx : ∀ X : Mem, (M ++ X)[q]? = some (.lst (bs.map .int)) := fun X => by rw [List.getElem?_append_left (List.getElem?_eq_some_iff.mp hq).1]; exact hq
  refine runB_ok rfl ?_
  show Ok (evSs C (led_onB f) [some w.d, some (.ref q), some (.int (k0 : Nat)), none, none, none] M) _
  unfold led_onB
  refine yL (xL (xC (xV rfl) xZ)) ?_
  simp only [List.set]
  refine yL (xL (xC (xIx (xIx (xIx (xV rfl) xN (web0 w)) (xV rfl) (ixWy hk)) xN (wyB _)) xZ)) ?_
  simp only [List.set, List.append_assoc, List.singleton_append, List.length_append, List.length_singleton]
  refine yA (xIx (xIx (xIx (xV rfl) xN (web0 w)) (xV rfl) (ixWy hk)) xN (wyE _)) ?_
  simp only [List.set]
  refine Ok.cons ?_
  rw [evS]
  refine Ok.mono (whl_ok (P := fun fl M1 => ∃ (R : List Nat) (l : Nat), fl = .nx [some w.d, some (.ref q), some (.int (k0 : Nat)), some (.ref M.length), some (.ref (M.length + 1)), some (endD (Ev.fin w.ws l))] ∧ Led w.ws bs k0 R ∧ R.getLast? = some l ∧ (Ev.fin w.ws l = none ∨ Ev.fin w.ws l ∈ R.map (bgn w.ws)) ∧ M1 = M ++ [.lst (intsD R), .lst (endsD (R.map (bgn w.ws)))])
    (fun n s M1 => ∃ (R : List Nat) (l : Nat), s = [some w.d, some (.ref q), some (.int (k0 : Nat)), some (.ref M.length), some (.ref (M.length + 1)), some (endD (Ev.fin w.ws l))] ∧ Led w.ws bs k0 R ∧ R.getLast? = some l ∧ n + R.length = w.n + 2 ∧ M1 = M ++ [.lst (intsD R), .lst (endsD (R.map (bgn w.ws)))]) ?_ (w.n + 1) C.fuel _ _ (by omega) ?_) ?_
  · rintro n s M1 ⟨R, l, rfl, L, hl, hnl, rfl⟩
    have g4 : (M ++ [O.lst (intsD R), .lst (endsD (R.map (bgn w.ws)))])[M.length + 1]? = some (.lst (endsD (R.map (bgn w.ws)))) := get_snd rfl
    have hlm : l ∈ R := List.mem_of_getLast? hl
    have hll : l < w.ws.length := lit_lt (L.path.lit l hlm)
    have ec := xAnd (C := C) (s := [some w.d, some (.ref q), some (.int (k0 : Nat)), some (.ref M.length), some (.ref (M.length + 1)), some (endD (Ev.fin w.ws l))]) (xCm (xV (i := 5) rfl) xO (notNon (M := M ++ [O.lst (intsD R), .lst (endsD (R.map (bgn w.ws)))]) (Ev.fin w.ws l))) fun _ => xCm (xV (i := 5) rfl) (xV (i := 4) rfl) (inEndsR g4 (Ev.fin w.ws l))
    rw [ec, rbind_ok]
    refine .ret ?_
    cases hc : (decide (Ev.fin w.ws l ≠ none) && !decide (Ev.fin w.ws l ∈ R.map (bgn w.ws))) with
    | false =>
      refine ⟨R, l, rfl, L, hl, ?_, rfl⟩
      rw [Bool.and_eq_false_iff] at hc
      rcases hc with hc | hc
      · exact .inl (Classical.byContradiction fun z => by rw [decide_eq_true z] at hc; cases hc)
      · right
        simpa using hc
    | true =>
      rw [Bool.and_eq_true, decide_eq_true_eq, Bool.not_eq_true', decide_eq_false_iff_not] at hc
      obtain ⟨c1, c2⟩ := hc
      obtain ⟨h, eh⟩ := Option.ne_none_iff_exists'.mp c1
      rw [eh] at c2
      obtain ⟨j, r, en, hj, bj, pj⟩ := fl.next hll (L.pos l hlm) eh
      have hlen := path_len L.path ok.wo
      simp only
      refine yApp (xV rfl) g4 (xV rfl) (by unfold endsD; simp; omega) ?_
      rw [set_snd rfl, ← ends_app, eh]
      have g3 : (M ++ [O.lst (intsD R), .lst (endsD (R.map (bgn w.ws) ++ [some h]))])[M.length]? = some (.lst (intsD R)) := get_mid rfl
      have qn := hn (w := w) (bs := bs) h ok hb (hqx [O.lst (intsD R), .lst (endsD (R.map (bgn w.ws) ++ [some h]))])
      rw [en] at qn
      have ix0 : ixW (M ++ [O.lst (intsD R), .lst (endsD (R.map (bgn w.ws) ++ [some h]))]) (.fl (intsD (j :: r))) (.v (.int 0)) = some (.v (.int (j : Nat))) := by
        simp only [ixW, asQ, asT, asL]
        have : L2.atI (intsD (j :: r)) 0 = some (.int (j : Nat)) := atI0
        rw [this]; rfl
      refine yApp (xV rfl) g3 (xIx (xF (xC (xV rfl) (xC (xV rfl) (xC (xV rfl) xZ))) qn) xN ix0) (by rw [intsD_len]; omega) ?_
      rw [set_mid rfl, ← ints_app]
      have g3' : (M ++ [O.lst (intsD (R ++ [j])), .lst (endsD (R.map (bgn w.ws) ++ [some h]))])[M.length]? = some (.lst (intsD R ++ [.int (j : Nat)])) := by rw [ints_app]; exact get_mid rfl
      refine yA (xIx (xIx (xIx (xV rfl) xN (web0 w)) (xIx (xV rfl) (xNg xN) (ixLast g3')) (ixWy hj)) xN (wyE _)) (Ok.nil ?_)
      simp only [List.set]
      have lj : (R ++ [j]).getLast? = some j := by simp
      refine ⟨n - 1, by omega, R ++ [j], j, by rw [← fin_wy], L.more hl eh c2 hj bj pj, lj, by rw [List.length_append, List.length_singleton]; omega, ?_⟩
      rw [List.map_append, List.map_cons, List.map_nil, bj]
  · refine ⟨[k0], k0, by rw [← fin_wy], ⟨Path.one (lit_Z hk), fun k hk' => by rw [List.mem_singleton.mp hk']; exact h0, rfl, by simp⟩, rfl, by show w.n + 1 + 1 = w.n + 2; omega, ?_⟩
    rw [List.map_cons, List.map_nil, bgn_wy]
    rfl
  · rintro fl' M1 ⟨R, l, rfl, L, hl, hend, rfl⟩
    simp only
    have hlm : l ∈ R := List.mem_of_getLast? hl
    have hll : l < w.ws.length := lit_lt (L.path.lit l hlm)
    have g4 : (M ++ [O.lst (intsD R), .lst (endsD (R.map (bgn w.ws)))])[M.length + 1]? = some (.lst (endsD (R.map (bgn w.ws)))) := get_snd rfl
    have pos : ∀ k ∈ R, k < w.ws.length ∧ 0 < nb bs k := fun k hk' => ⟨lit_lt (L.path.lit k hk'), L.pos k hk'⟩
    have hR : (R.map (bgn w.ws)).head? = some (bgn w.ws k0) := by rw [List.head?_map, L.hd]; rfl
    have out : ∀ i : Nat, Lap w.ws bs R i → Ok (leave M (.v (.tup [.ref M.length, .int (i : Nat)])) (M ++ [O.lst (intsD R), .lst (endsD (R.map (bgn w.ws)))])) fun x M' => ∃ (R : List Nat) (i : Nat) (Y : Mem), x = .v (.tup [.ref M.length, .int (i : Nat)]) ∧ M' = M ++ .lst (intsD R) :: Y ∧ Lap w.ws bs R i := fun i lap => by
      unfold leave
      rw [if_pos (pre_app M _), if_neg (by simp [W.bel, D.bel, D.bels])]
      exact .ret ⟨R, i, _, rfl, rfl, lap⟩
    cases hfin : Ev.fin w.ws l with
    | none =>
      have hz : bgn w.ws k0 = none := by
        rcases hd with hd | hd
        · exact hd
        · have := hd l hll hfin
          have := L.pos l hlm
          omega
      rw [hz] at hR
      refine yR (xT (xC (xV rfl) (xC (xIF (xCm (xV rfl) xO (notNon none)) xN) xZ))) ?_
      refine out 0 ⟨Nat.zero_le _, pos, L.path.close hl ?_, l, hl, .inl ⟨hfin, rfl, hR⟩⟩
      rw [hfin, ← List.head?_eq_getElem?, hR]
    | some h =>
      rw [hfin] at hend
      have hm : some h ∈ R.map (bgn w.ws) := by
        rcases hend with z | z
        · cases z
        · exact z
      obtain ⟨i, hi, hi2⟩ := find_end hm
      refine yR (xT (xC (xV rfl) (xC (xIT (xCm (xV rfl) xO (notNon (some h))) (xIdx (xV rfl) g4 (xV rfl) ⟨rfl, List.all_eq_true.mpr fun d hd => by obtain ⟨o, _, rfl⟩ := List.mem_map.mp hd; exact end_flat o⟩ hi)) xZ))) ?_
      have hil : i < R.length := by have := (List.getElem?_eq_some_iff.mp hi2).1; simpa using this
      refine out i ⟨by omega, pos, L.path.close hl (by rw [hfin]; exact hi2), l, hl, .inr ⟨by rw [hfin]; simp, ?_⟩⟩
      rw [List.map_drop]
      intro hmem
      cases i with
      | zero =>
        rw [List.drop_zero] at hmem
        cases hb' : R.map (bgn w.ws) with
        | nil => rw [hb'] at hmem; cases hmem
        | cons a r =>
          have tl := L.tl
          rw [hb'] at hmem tl hi2
          rcases List.mem_cons.mp hmem with z | z
          · subst z; simp at hi2
          · exact tl z
      | succ i =>
        have tl := L.tl
        rw [← List.drop_tail] at hmem
        exact tl (List.mem_of_mem_drop hmem)
end
end Ev

/-! EvK2: bundles. -/
namespace Ev
open PySem
def turned_roundB : Ss := (.cons (.asg (.nm 1) (.idx (.var 0) (.bi .min (.val (.var 0)))))
  (.cons (.ret (.bi .tuple (.val (.bop .add (.sl (.var 0) (.some (.var 1)) .none) (.sl (.var 0) .none (.some (.var 1)))))))
  .nil))
def bundleB (f_turned_round f_led_on : Nat) : Ss := (.cons (.asg (.nm 2) (.bi .list (.val (.var 1))))
  (.cons (.asg (.nm 3) (.lst .nil))
  (.cons (.asg (.nm 4) (.comp (.var 8) (.tp (.cons (.nm 8) (.cons (.nm 10) .nil))) (.enum (.ix (.var 0) (.num 0))) (.some (.cmp .is (.ix (.var 10) (.num 0)) .non)) [8, 10]))
  (.cons (.asg (.nm 4) (.bop .add (.var 4) (.comp (.var 8) (.tp (.cons (.nm 8) (.cons (.nm 10) .nil))) (.enum (.ix (.var 0) (.num 0))) (.some (.cmp .isnot (.ix (.var 10) (.num 0)) .non)) [8, 10])))
  (.cons (.for_ (.nm 5) (.val (.var 4))
  (.cons (.whl (.cmp .gt (.ix (.var 2) (.var 5)) (.num 0))
  (.cons (.asg (.tp (.cons (.nm 6) (.cons (.nm 11) .nil))) (.call f_led_on (.cons (.var 0) (.cons (.var 2) (.cons (.var 5) .nil)))))
  (.cons (.asg (.nm 6) (.sl (.var 6) (.some (.var 11)) .none))
  (.cons (.asg (.nm 7) (.bi .min (.val (.comp (.ix (.var 2) (.var 8)) (.nm 8) (.val (.var 6)) .none [8]))))
  (.cons (.for_ (.nm 8) (.val (.var 6))
  (.cons (.augix .sub (.var 2) (.var 8) (.var 7))
  .nil))
  (.cons (.asg (.nm 9) (.ite (.cmp .is (.ix (.ix (.ix (.var 0) (.num 0)) (.ix (.var 6) (.neg (.num 1)))) (.num 1)) .non) (.bi .tuple (.val (.var 6))) (.call f_turned_round (.cons (.var 6) .nil))))
  (.cons (.expr (.app (.var 3) (.tup (.cons (.var 9) (.cons (.var 7) .nil)))))
  .nil)))))))
  .nil))
  (.cons (.ret (.bi .tuple (.val (.var 3))))
  .nil))))))
theorem cut_to {l : List D} {i : Nat} (h : i ≤ l.length) : cut l none (some (i : Int)) = l.take i := by
  unfold cut
  rw [HT.sIx_none, HT.sIx_nat, Nat.min_eq_left h, Nat.sub_zero, List.drop_zero]
def IsTurnedR (C : Cl) (f : Nat) : Prop := ∀ {q : Nat} {R : List Nat} {M : Mem} (_ : R ≠ []) (_ : R.length ≤ 400) (_ : M[q]? = some (.lst (intsD R))), ∃ R' : List Nat, R'.Perm R ∧ C.call f [.ref q] M = .ok (.v (.tup (intsD R'))) M
section
variable {C : Cl} {M : Mem} {q f : Nat} {s : Env} {e : E}
theorem bMinR {l : List Int} {m : Int} (hm : minI l = some m) (hq : M[q]? = some (.lst (l.map .int))) (h : evE C e s M = .ok (.v (.ref q)) M) : evE C (.bi .min (.val e)) s M = .ok (.v (.int m)) M := by
  rw [evE, h, rbind_ok]
  have z : biV2 .min M (.v (.ref q)) = some (.v (.int m)) := by
    unfold biV2
    rw [if_pos (.inl rfl)]
    simp only [biV, asQ, asT, asL, hq, Option.bind_some, biW, ints_of, hm, Option.map_some]
  rw [z]; rfl
theorem slFrom {l : List Nat} {i : Nat} (hq : M[q]? = some (.lst (intsD l))) (h : i ≤ l.length) : slW M (.v (.ref q)) (some (i : Int)) none = some (.fl (intsD (l.drop i))) := by
  have z : slW M (.v (.ref q)) (some (i : Int)) none = some (.fl (cut (intsD l) (some (i : Int)) none)) := by simp only [slW, asT, asL, hq]
  rw [z, cut_from (by rw [intsD_len]; exact h)]
  unfold intsD; rw [List.map_drop]
theorem slTo {l : List Nat} {i : Nat} (hq : M[q]? = some (.lst (intsD l))) (h : i ≤ l.length) : slW M (.v (.ref q)) none (some (i : Int)) = some (.fl (intsD (l.take i))) := by
  have z : slW M (.v (.ref q)) none (some (i : Int)) = some (.fl (cut (intsD l) none (some (i : Int)))) := by simp only [slW, asT, asL, hq]
  rw [z, cut_to (by rw [intsD_len]; exact h)]
  unfold intsD; rw [List.map_take]
theorem turned_round_ok {R : List Nat} (hR : R ≠ []) (hz : R.length ≤ 400) (hq : M[q]? = some (.lst (intsD R))) : ∃ R' : List Nat, R'.Perm R ∧ runB C ⟨1, 2, turned_roundB⟩ [.ref q] M = .ok (.v (.tup (intsD R'))) M := by
  obtain ⟨m, hm, hmem, _⟩ := minI_some (l := R.map fun k : Nat => (k : Int)) (by simpa using hR)
  obtain ⟨k, hk, rfl⟩ := List.mem_map.mp hmem
  obtain ⟨i, hi⟩ : ∃ i, ((intsD R).findIdx? fun y => eqF y (.int (k : Nat))) = some i := by
    cases hf : (intsD R).findIdx? fun y => eqF y (.int (k : Nat)) with
    | some i => exact ⟨i, rfl⟩
    | none =>
      have z := List.findIdx?_eq_none_iff.mp hf (.int (k : Nat)) (List.mem_map.mpr ⟨k, hk, rfl⟩)
      simp [eqF] at z
  have hil : i < R.length := by
    have z := (List.findIdx?_eq_some_iff_getElem.mp hi).1
    rwa [intsD_len] at z
  refine ⟨R.drop i ++ R.take i, ?_, runB_pure rfl ?_ (intsD_pure _)⟩
  · exact List.perm_append_comm.trans (by rw [List.take_append_drop])
  · show evSs C turned_roundB [some (.ref q), none] M = _
    have hq' : M[q]? = some (.lst ((R.map fun k : Nat => (k : Int)).map .int)) := by rw [← intsD_ints']; exact hq
    have e1 := xIdx (C := C) (s := [some (.ref q), none]) (xV (i := 0) rfl) hq (bMinR hm hq' (xV (i := 0) rfl)) ⟨rfl, intsD_flat R⟩ hi
    have ea := addL (M := M) (a := .fl (intsD (R.drop i))) (b := .fl (intsD (R.take i))) rfl rfl (by rw [intsD_len, intsD_len, List.length_drop, List.length_take]; omega)
    rw [intsD_app] at ea
    have e2 := bTupF (xOp (C := C) (s := [some (.ref q), some (.int (i : Nat))]) (xSl (xV (i := 0) rfl) (xOS (xV (i := 1) rfl)) xON (slFrom hq (by omega))) (xSl (xV (i := 0) rfl) xON (xOS (xV (i := 1) rfl)) (slTo hq (by omega))) ea)
    exact (cons_nx (asg_eq e1)).trans (cons_rt (ret_eq e2))
end
/-! ### what is taken off -/
theorem nb_more {bs : List Int} {row : List Nat} {m : Int} {k : Nat} (h : k < bs.length) : nb (more bs row m) k = nb bs k + if k ∈ row then m else 0 := by
  unfold nb
  rw [more_get, List.getElem?_eq_getElem h]
  rfl
theorem even_more {ws : List Way} {bs : List Int} {row : List Nat} {m : Int} (hl : bs.length = ws.length) (r : Ring ws (Z ws) row) (ev : ∀ h, sumAt ws bs 0 (some h) = sumAt ws bs 1 (some h)) (hh : Nat) : sumAt ws (more bs row m) 0 (some hh) = sumAt ws (more bs row m) 1 (some hh) := by
  obtain ⟨nd, hr⟩ := r.rows
  rw [← side_wy, ← side_wy, side_more hl nd hr, side_more hl nd hr, side_wy, side_wy, ev hh]
  congr 2
  have f : ∀ sd (g : Nat → Option Nat), (∀ k ∈ row, ws[k]?.map (Way.side sd) = some (g k)) → (row.filter fun k => decide ((ws[k]?.map (Way.side sd)) = some (some hh))) = row.filter fun k => decide (g k = some hh) := by
    intro sd g hg
    refine List.filter_congr fun k hk => ?_
    rw [hg k hk]
    simp
  rw [f 1 (Ev.fin ws) (fun k hk => by obtain ⟨y, e1, _, e3⟩ := lit_at (r.lit k hk); rw [e1, e3]; rfl), f 0 (bgn ws) (fun k hk => by obtain ⟨y, e1, e2, _⟩ := lit_at (r.lit k hk); rw [e1, e2]; rfl), count_filter, count_filter, (r.turn.filter _).length_eq]
def brD (p : List Nat × Int) : D := .tup [.tup (intsD p.1), .int p.2]
def rowsAt (rows : List (List Nat × Int)) (k : Nat) : Int := (rows.map fun p => if k ∈ p.1 then p.2 else 0).sum
structure Good (ws : List Way) (R : List Nat) : Prop where
  ring : Ring ws (Z ws) R
  hd : none ∈ R.map (bgn ws) → (R.map (bgn ws)).head? = some none
def posC (ws : List Way) (bs : List Int) : Nat := ((List.range ws.length).filter fun k => decide (0 < nb bs k)).length
structure Bun (ws : List Way) (b0 bs : List Int) (rows : List (List Nat × Int)) : Prop where
  flow : Flow ws bs
  acc : ∀ k, k < ws.length → nb bs k + rowsAt rows k = nb b0 k
  good : ∀ p ∈ rows, Good ws p.1 ∧ 1 ≤ p.2
  cnt : rows.length + posC ws bs ≤ ws.length
theorem rowsAt_app (rows : List (List Nat × Int)) (p : List Nat × Int) (k : Nat) : rowsAt (rows ++ [p]) k = rowsAt rows k + if k ∈ p.1 then p.2 else 0 := by
  unfold rowsAt
  rw [List.map_append, List.sum_append]
  simp
theorem Bun.more {ws : List Way} {b0 bs : List Int} {rows : List (List Nat × Int)} (B : Bun ws b0 bs rows) {R R' : List Nat} {m : Int} (g : Good ws R') (p : R'.Perm R) (hm : m ∈ R.map (nb bs)) (hmin : ∀ k ∈ R, m ≤ nb bs k) (h1 : 1 ≤ m) :
    Bun ws b0 (Ev.more bs R (-m)) (rows ++ [(R', m)]) ∧ posC ws (Ev.more bs R (-m)) < posC ws bs ∧ ∀ k, k < ws.length → nb bs k = 0 → nb (Ev.more bs R (-m)) k = 0 := by
  have hl := B.flow.len
  have hmem : ∀ k, k ∈ R' ↔ k ∈ R := fun k => p.mem_iff
  have hlt : ∀ k ∈ R, k < ws.length := fun k hk => lit_lt (g.ring.lit k ((hmem k).mpr hk))
  have hnb : ∀ k, k < ws.length → nb (Ev.more bs R (-m)) k = nb bs k + if k ∈ R then -m else 0 := fun k hk => nb_more (by rw [hl]; exact hk)
  have pos : ∀ k, k < ws.length → 0 ≤ nb (Ev.more bs R (-m)) k := fun k hk => by
    rw [hnb k hk]
    have := B.flow.pos k hk
    split
    · rename_i c; have := hmin k c; omega
    · omega
  have eqR : Ev.more bs R (-m) = Ev.more bs R' (-m) := by
    unfold Ev.more
    refine List.map_congr_left fun x _ => ?_
    by_cases c : x.2 ∈ R
    · rw [if_pos c, if_pos ((hmem _).mpr c)]
    · rw [if_neg c, if_neg fun z => c ((hmem _).mp z)]
  have zero : ∀ k, k < ws.length → nb bs k = 0 → nb (Ev.more bs R (-m)) k = 0 := fun k hk e => by
    rw [hnb k hk]
    split
    · rename_i c; have := hmin k c; omega
    · omega
  have less : posC ws (Ev.more bs R (-m)) < posC ws bs := by
    obtain ⟨k, hk, rfl⟩ := List.mem_map.mp hm
    have hk' := hlt k hk
    have nd : ((List.range ws.length).filter fun j => decide (0 < nb (Ev.more bs R (-nb bs k)) j)).Nodup := List.nodup_range.filter _
    have nk : k ∉ ((List.range ws.length).filter fun j => decide (0 < nb (Ev.more bs R (-nb bs k)) j)) := fun z => by
      have := of_decide_eq_true (List.mem_filter.mp z).2
      rw [hnb k hk', if_pos hk] at this
      omega
    have z := nodup_len (l := k :: ((List.range ws.length).filter fun j => decide (0 < nb (Ev.more bs R (-nb bs k)) j))) (m := (List.range ws.length).filter fun j => decide (0 < nb bs j)) (List.nodup_cons.mpr ⟨nk, nd⟩) fun x hx => by
      rcases List.mem_cons.mp hx with rfl | hx
      · exact List.mem_filter.mpr ⟨List.mem_range.mpr hk', decide_eq_true (by omega)⟩
      · obtain ⟨a1, a2⟩ := List.mem_filter.mp hx
        have a2 := of_decide_eq_true a2
        have hx' := List.mem_range.mp a1
        refine List.mem_filter.mpr ⟨a1, decide_eq_true ?_⟩
        rcases Int.lt_or_le 0 (nb bs x) with q | q
        · exact q
        · have := B.flow.pos x hx'
          have := zero x hx' (by omega)
          omega
    rw [List.length_cons] at z
    exact z
  refine ⟨⟨⟨by rw [more_len]; exact hl, pos, fun h => by rw [eqR]; exact even_more hl g.ring B.flow.even h⟩, fun k hk => ?_, fun q hq => ?_, ?_⟩, less, zero⟩
  · rw [rowsAt_app, hnb k hk]
    have a := B.acc k hk
    by_cases c : k ∈ R
    · rw [if_pos c]; simp only [(hmem k).mpr c, if_true]; omega
    · rw [if_neg c]; simp only [show ¬ k ∈ R' from fun z => c ((hmem k).mp z), if_false]; omega
  · rcases List.mem_append.mp hq with hq | hq
    · exact B.good q hq
    · rw [List.mem_singleton.mp hq]; exact ⟨g, h1⟩
  · have := B.cnt
    rw [List.length_append, List.length_singleton]
    omega
theorem Ok.asg2 {C : Cl} {e : E} {i j : Nat} {s : Env} {M : Mem} {P : Fl → Mem → Prop} (h : Ok (evE C e s M) fun w M1 => ∃ a b, w = .v (.tup [a, b]) ∧ P (.nx ((s.set i (some a)).set j (some b))) M1) : Ok (evS C (.asg (.tp (.cons (.nm i) (.cons (.nm j) .nil))) e) s M) P := by
  rw [evS]
  refine h.bind fun w M1 ⟨a, b, e, q⟩ => ?_
  subst e
  exact .ret q
section
variable {C : Cl} {bs : List Int} {row : List Nat} {m : Int} {A Y : Mem} {s : Env} {Q : Nat}
theorem sub_ok (h2 : s[2]? = some (some (.ref A.length))) (h6 : s[6]? = some (some (.ref Q))) (h7 : s[7]? = some (some (.int m))) (hl : s.length = 12) (nd : row.Nodup) (hr : ∀ k ∈ row, k < bs.length)
    (aR : ∀ l : List D, (A ++ .lst l :: Y)[Q]? = some (.lst (intsD row))) :
    Ok (evS C (.for_ (.nm 8) (.val (.var 6)) (.cons (.augix .sub (.var 2) (.var 8) (.var 7)) .nil)) s (A ++ .lst (bs.map .int) :: Y)) fun f M' => ∃ x, f = .nx (s.set 8 x) ∧ M' = A ++ .lst ((more bs row (-m)).map .int) :: Y := by
  refine Ok.for (Ok.of (itL (aR _) (xV h6)) ?_)
  refine forL_ok (fun i s1 M1 => ∃ x : Option D, s1 = s.set 8 x ∧ M1 = A ++ .lst ((more bs (row.take i) (-m)).map .int) :: Y) ?_ ?_ ⟨s[8]'(by omega), by simp, by simp [more_nil]⟩
  · rintro i d s1 M1 hd ⟨x, rfl, rfl⟩
    obtain ⟨k, hk, rfl⟩ := at_map (f := fun k : Nat => D.int (k : Nat)) hd
    have hkm := List.mem_of_getElem? hk
    have hnot : k ∉ row.take i := fun z => by
      obtain ⟨j, hj, ej⟩ := List.getElem_of_mem z
      rw [List.getElem_take] at ej
      rw [List.length_take] at hj
      have e1 : row[j]? = some k := by rw [List.getElem?_eq_getElem (by omega), ej]
      obtain ⟨a1, b1⟩ := List.getElem?_eq_some_iff.mp e1
      obtain ⟨a2, b2⟩ := List.getElem?_eq_some_iff.mp hk
      have := (List.getElem_inj nd).mp (b1.trans b2.symm)
      omega
    have hkl : k < (more bs (row.take i) (-m)).length := by rw [more_len]; exact hr k hkm
    have hb := nb_get hkl
    have f : ∀ j, j ≠ 8 → (s.set 8 (some (D.int (k : Nat))))[j]? = s[j]? := fun j hj => List.getElem?_set_ne (Ne.symm hj)
    have f8 : (s.set 8 (some (D.int (k : Nat))))[8]? = some (some (.int (k : Nat))) := List.getElem?_set_self (by omega)
    have hA : (A ++ O.lst ((more bs (row.take i) (-m)).map .int) :: Y)[A.length]? = some (.lst ((more bs (row.take i) (-m)).map .int)) := get_mid rfl
    have hg : ((more bs (row.take i) (-m)).map D.int)[k]? = some (.int (nb (more bs (row.take i) (-m)) k)) := by rw [List.getElem?_map, hb]; rfl
    have hll : ((more bs (row.take i) (-m)).map D.int).length = (more bs (row.take i) (-m)).length := List.length_map _
    simp only [asgT, List.set_set]
    refine Ok.cons ?_
    simp only [evS, evE, f 2 (by decide), f 7 (by decide), f8, h2, h7, rbind_ok, hA, hll, natI, if_false, seqI hkl, hg, if_true, set_mid]
    refine .ret (Ok.nil ?_)
    have e : ((more bs (row.take i) (-m)).map D.int).set k (.int (nb (more bs (row.take i) (-m)) k - m)) = (more bs (row.take (i + 1)) (-m)).map .int := by
      rw [← List.map_set, Int.sub_eq_add_neg, more_cons bs (row.take i) k (-m) _ hnot hb, List.take_succ, hk]
      rfl
    rw [e]
    exact ⟨src1 (aR _), some (.int (k : Nat)), rfl, rfl⟩
  · rintro s1 M1 ⟨x, rfl, rfl⟩
    rw [show (intsD row, [(Q, O.lst (intsD row))]).1.length = row.length from intsD_len row, List.take_length]
    exact ⟨x, rfl, rfl⟩
end
end Ev

/-! EvK3: a bundle is told. -/
namespace Ev
open PySem
def IsLed (C : Cl) (f : Nat) : Prop := ∀ {hs rs q k0 : Nat} {M : Mem} {w : Web} {bs : List Int} (_ : w.Ok hs rs) (_ : hs ≤ 100) (_ : Flow w.ws bs) (_ : M[q]? = some (.lst (bs.map .int))) (_ : k0 < w.ws.length) (_ : 0 < nb bs k0) (_ : bgn w.ws k0 = none ∨ ∀ k, k < w.ws.length → Ev.fin w.ws k = none → nb bs k = 0),
    Ok (C.call f [w.d, .ref q, .int (k0 : Nat)] M) fun x M' => ∃ (R : List Nat) (i : Nat) (Y : Mem), x = .v (.tup [.ref M.length, .int (i : Nat)]) ∧ M' = M ++ .lst (intsD R) :: Y ∧ Lap w.ws bs R i
def bm (M : Mem) (bs : List Int) (rows : List (List Nat × Int)) (s1 S : List Nat) (G : Mem) : Mem := M ++ .lst (bs.map .int) :: .lst (rows.map brD) :: .lst (intsD s1) :: .lst (intsD S) :: G
section
variable {M : Mem} {bs : List Int} {rows : List (List Nat × Int)} {s1 S : List Nat} {G : Mem}
theorem bm0 : (bm M bs rows s1 S G)[M.length]? = some (.lst (bs.map .int)) := get_mid rfl
theorem bm1 : (bm M bs rows s1 S G)[M.length + 1]? = some (.lst (rows.map brD)) := get_snd rfl
theorem bm3 : (bm M bs rows s1 S G)[M.length + 3]? = some (.lst (intsD S)) := by
  unfold bm
  have z : M ++ O.lst (bs.map .int) :: .lst (rows.map brD) :: .lst (intsD s1) :: .lst (intsD S) :: G = (M ++ [O.lst (bs.map .int), .lst (rows.map brD), .lst (intsD s1)]) ++ .lst (intsD S) :: G := by simp
  rw [z]; exact get_mid (by simp)
theorem bm_app (X : Mem) : bm M bs rows s1 S G ++ X = bm M bs rows s1 S (G ++ X) := by unfold bm; simp
theorem bm_set1 (r' : List (List Nat × Int)) : (bm M bs rows s1 S G).set (M.length + 1) (.lst (r'.map brD)) = bm M bs r' s1 S G := set_snd rfl
end
def bodyB (tr lo : Nat) : Ss := (.cons (.asg (.tp (.cons (.nm 6) (.cons (.nm 11) .nil))) (.call lo (.cons (.var 0) (.cons (.var 2) (.cons (.var 5) .nil)))))
  (.cons (.asg (.nm 6) (.sl (.var 6) (.some (.var 11)) .none))
  (.cons (.asg (.nm 7) (.bi .min (.val (.comp (.ix (.var 2) (.var 8)) (.nm 8) (.val (.var 6)) .none [8]))))
  (.cons (.for_ (.nm 8) (.val (.var 6))
  (.cons (.augix .sub (.var 2) (.var 8) (.var 7))
  .nil))
  (.cons (.asg (.nm 9) (.ite (.cmp .is (.ix (.ix (.ix (.var 0) (.num 0)) (.ix (.var 6) (.neg (.num 1)))) (.num 1)) .non) (.bi .tuple (.val (.var 6))) (.call tr (.cons (.var 6) .nil))))
  (.cons (.expr (.app (.var 3) (.tup (.cons (.var 9) (.cons (.var 7) .nil)))))
  .nil))))))
section
variable {C : Cl} {w : Web} {hs rs tr lo : Nat} {M : Mem} {b0 bs : List Int} {rows : List (List Nat × Int)} {s1 S : List Nat} {G : Mem}
theorem bundle_turn (ht : IsTurnedR C tr) (hl : IsLed C lo) (ok : w.Ok hs rs) (hh : hs ≤ 100) (hr : rs ≤ 100) (B : Bun w.ws b0 bs rows) {k0 : Nat} (hk : k0 < w.ws.length) (h0 : 0 < nb bs k0)
    (hd : bgn w.ws k0 = none ∨ ∀ k, k < w.ws.length → Ev.fin w.ws k = none → nb bs k = 0) {d1 : D} (x6 x7 x8 x9 x10 x11 : Option D) :
    Ok (evSs C (bodyB tr lo) [some w.d, some d1, some (.ref M.length), some (.ref (M.length + 1)), some (.ref (M.length + 3)), some (.int (k0 : Nat)), x6, x7, x8, x9, x10, x11] (bm M bs rows s1 S G)) fun f M' =>
      ∃ (x6 x7 x8 x9 x11 : Option D) (bs' : List Int) (rows' : List (List Nat × Int)) (G' : Mem), f = .nx [some w.d, some d1, some (.ref M.length), some (.ref (M.length + 1)), some (.ref (M.length + 3)), some (.int (k0 : Nat)), x6, x7, x8, x9, x10, x11] ∧ M' = bm M bs' rows' s1 S G' ∧
        Bun w.ws b0 bs' rows' ∧ posC w.ws bs' < posC w.ws bs ∧ ∀ k, k < w.ws.length → nb bs k = 0 → nb bs' k = 0 := by
  have hm2 := ok.m2
  have hn2 := ok.n2
  have hb := B.flow.len
  unfold bodyB
  refine Ok.cons (Ok.asg2 (Ok.call ?_))
  simp only [evEs, evE, List.getElem?_cons_zero, List.getElem?_cons_succ, rbind_ok, Res.put, put]
  refine .ret ((hl ok hh B.flow bm0 hk h0 hd).mono fun x M1 ⟨R, i, Y, e, eM, lap⟩ => ⟨_, _, e, ?_⟩)
  subst eM
  simp only [List.set]
  have g6 : (bm M bs rows s1 S G ++ O.lst (intsD R) :: Y)[(bm M bs rows s1 S G).length]? = some (.lst (intsD R)) := get_mid rfl
  refine yL (xSl (xV rfl) (xOS (xV rfl)) xON (slFrom g6 lap.le)) ?_
  simp only [List.set]
  rw [bm_app, bm_app]
  have eG : (bm M bs rows s1 S (G ++ O.lst (intsD R) :: Y)).length = (M ++ [O.lst (bs.map .int), .lst (rows.map brD), .lst (intsD s1), .lst (intsD S)] ++ (G ++ O.lst (intsD R) :: Y)).length := by unfold bm; simp
  have aR : ∀ l : List D, (M ++ O.lst l :: (.lst (rows.map brD) :: .lst (intsD s1) :: .lst (intsD S) :: (G ++ O.lst (intsD R) :: Y ++ [.lst (intsD (R.drop i))])))[(bm M bs rows s1 S (G ++ O.lst (intsD R) :: Y)).length]? = some (.lst (intsD (R.drop i))) := fun l => by
    have z : M ++ O.lst l :: (.lst (rows.map brD) :: .lst (intsD s1) :: .lst (intsD S) :: (G ++ O.lst (intsD R) :: Y ++ [.lst (intsD (R.drop i))])) = (M ++ O.lst l :: .lst (rows.map brD) :: .lst (intsD s1) :: .lst (intsD S) :: (G ++ O.lst (intsD R) :: Y)) ++ [.lst (intsD (R.drop i))] := by simp
    rw [z]
    exact get_mid (by unfold bm; simp)
  generalize hQ : (bm M bs rows s1 S (G ++ O.lst (intsD R) :: Y)).length = Q at aR
  generalize hG' : G ++ O.lst (intsD R) :: Y ++ [O.lst (intsD (R.drop i))] = G' at aR
  have ring := lap.ring
  obtain ⟨nd, hrr⟩ := ring.rows
  have gQ : (bm M bs rows s1 S G')[Q]? = some (.lst (intsD (R.drop i))) := aR _
  have pR : ∀ k ∈ R.drop i, k < w.ws.length ∧ 0 < nb bs k := fun k hk => lap.pos k (List.mem_of_mem_drop hk)
  obtain ⟨m, hm, hmem, hmin⟩ := minI_some (l := (R.drop i).map (nb bs)) (by simpa using ring.ne)
  have em := compM (C := C) (tg := .nm 8) (it := .val (.var 6)) (el := .ix (.var 2) (.var 8)) (ws := [8]) (s := [some w.d, some d1, some (.ref M.length), some (.ref (M.length + 1)), some (.ref (M.length + 3)), some (.int (k0 : Nat)), some (.ref Q), x7, x8, x9, x10, some (.int (i : Nat))]) (M := bm M bs rows s1 S G') (l := R.drop i) (a := fun k : Nat => D.int (k : Nat)) (fun k => .int (nb bs k)) (itL gQ (xV rfl)) (src1 gQ) fun k hk => ⟨_, rfl, xIx (xV rfl) (xV rfl) (ixNbL bm0 (by rw [hb]; exact (pR k hk).1))⟩
  have im : (R.drop i).map (fun k => D.int (nb bs k)) = ((R.drop i).map (nb bs)).map .int := by rw [List.map_map]; rfl
  rw [im] at em
  refine yA (bMin hm em) ?_
  simp only [List.set]
  refine Ok.cons ((sub_ok (A := M) (bs := bs) (row := R.drop i) (m := m) (s := [some w.d, some d1, some (.ref M.length), some (.ref (M.length + 1)), some (.ref (M.length + 3)), some (.int (k0 : Nat)), some (.ref Q), some (.int m), x8, x9, x10, some (.int (i : Nat))]) rfl rfl rfl rfl nd (fun k hk => by rw [hb]; exact hrr k hk) aR).mono ?_)
  rintro f M2 ⟨x, rfl, rfl⟩
  simp only [List.set]
  have gQ2 : (bm M (more bs (R.drop i) (-m)) rows s1 S G')[Q]? = some (.lst (intsD (R.drop i))) := aR _
  have hm1 : 1 ≤ m := by
    obtain ⟨k, hk, e⟩ := List.mem_map.mp hmem
    have := (pR k hk).2
    omega
  have hmin' : ∀ k ∈ R.drop i, m ≤ nb bs k := fun k hk => hmin _ (List.mem_map.mpr ⟨k, hk, rfl⟩)
  obtain ⟨l, hl1, kind⟩ := lap.kind
  have ne := ring.ne
  have hld : (R.drop i).getLast? = some l := by
    rw [List.getLast?_drop, hl1]
    have : ¬ R.length ≤ i := fun z => ne (List.drop_eq_nil_iff.mpr z)
    rw [if_neg this]
  obtain ⟨R0, hR0⟩ : ∃ R0, R.drop i = R0 ++ [l] := ⟨(R.drop i).dropLast, by rw [List.getLast?_eq_some_iff] at hld; obtain ⟨ys, e⟩ := hld; rw [e]; simp⟩
  have hll : l < w.ws.length := hrr l (by rw [hR0]; simp)
  have rl : rows.length ≤ 100 := by have := B.cnt; omega
  have dl : (R.drop i).length ≤ 400 := by
    have := nodup_len nd (m := List.range w.ws.length) fun x hx => List.mem_range.mpr (hrr x hx)
    rw [List.length_range] at this
    omega
  have glast : ixW (bm M (more bs (R.drop i) (-m)) rows s1 S G') (.v (.ref Q)) (.v (.int (-1))) = some (.v (.int (l : Nat))) := ixLast (l := intsD R0) (by rw [gQ2, hR0, ints_app])
  have fin : ∀ R' : List Nat, R'.Perm (R.drop i) → Good w.ws R' → Ok (evSs C (.cons (.expr (.app (.var 3) (.tup (.cons (.var 9) (.cons (.var 7) .nil))))) .nil) [some w.d, some d1, some (.ref M.length), some (.ref (M.length + 1)), some (.ref (M.length + 3)), some (.int (k0 : Nat)), some (.ref Q), some (.int m), x, some (.tup (intsD R')), x10, some (.int (i : Nat))] (bm M (more bs (R.drop i) (-m)) rows s1 S G')) fun f M' =>
      ∃ (x6 x7 x8 x9 x11 : Option D) (bs' : List Int) (rows' : List (List Nat × Int)) (G' : Mem), f = .nx [some w.d, some d1, some (.ref M.length), some (.ref (M.length + 1)), some (.ref (M.length + 3)), some (.int (k0 : Nat)), x6, x7, x8, x9, x10, x11] ∧ M' = bm M bs' rows' s1 S G' ∧
        Bun w.ws b0 bs' rows' ∧ posC w.ws bs' < posC w.ws bs ∧ ∀ k, k < w.ws.length → nb bs k = 0 → nb bs' k = 0 := fun R' p g => by
    obtain ⟨z1, z2, z3⟩ := B.more g p hmem hmin' hm1
    refine yApp (xV rfl) bm1 (xT (xC (xV rfl) (xC (xV rfl) xZ))) (by rw [List.length_map]; omega) (Ok.nil ?_)
    have e : rows.map brD ++ [.tup [.tup (intsD R'), .int m]] = (rows ++ [(R', m)]).map brD := by rw [List.map_append]; rfl
    rw [e, bm_set1]
    exact ⟨_, _, _, _, _, _, _, _, rfl, rfl, z1, z2, z3⟩
  rcases kind with ⟨k1, k2, k3⟩ | ⟨k1, k2⟩
  · have g : Good w.ws (R.drop i) := ⟨ring, fun _ => by rw [k2, List.drop_zero]; exact k3⟩
    refine yA (xIT (xCm (xIx (xIx (xIx (xV rfl) xN (web0 w)) (xIx (xV rfl) (xNg xN) glast) (ixWy hll)) xN (wyE _)) xO (by rw [isNon, ← fin_wy, k1]; rfl)) (bTupL gQ2 (xV rfl))) ?_
    simp only [List.set]
    exact fin _ (List.Perm.refl _) g
  · obtain ⟨R', p, ec⟩ := ht ne dl gQ2
    have g : Good w.ws R' := by
      refine ⟨⟨fun z => ne (by rw [z] at p; exact (List.Perm.nil_eq p).symm), fun k hk => ring.lit k (p.mem_iff.mp hk), ?_, ?_⟩, fun z => absurd ((p.map _).mem_iff.mp z) k2⟩
      · exact ((p.map _).nodup_iff).mpr ring.nd
      · exact ((p.map _).trans ring.turn).trans (p.map _).symm
    refine yA (xIF (xCm (xIx (xIx (xIx (xV rfl) xN (web0 w)) (xIx (xV rfl) (xNg xN) glast) (ixWy hll)) xN (wyE _)) xO (by rw [isNon, ← fin_wy, decide_eq_false k1])) (xF (xC (xV rfl) xZ) ec)) ?_
    simp only [List.set]
    exact fin _ p g
theorem brs_pure (rows : List (List Nat × Int)) : (D.tup (rows.map brD)).pure = true := by
  rw [D.pure]
  refine pures_all fun d hd => ?_
  obtain ⟨p, _, rfl⟩ := List.mem_map.mp hd
  show (D.pure (.tup (intsD p.1)) && (D.pure (.int p.2) && true)) = true
  rw [intsD_pure]
  rfl
def Bndl (ws : List Way) (bs : List Int) (rows : List (List Nat × Int)) : Prop := (∀ p ∈ rows, Good ws p.1 ∧ 1 ≤ p.2) ∧ (∀ k, k < ws.length → rowsAt rows k = nb bs k) ∧ rows.length ≤ ws.length
def others (ws : List Way) : List Nat := (List.range ws.length).filter fun k => decide ((wy ws k).b ≠ none)
theorem bundle_ok (ht : IsTurnedR C tr) (hl : IsLed C lo) (hf : 200 ≤ C.fuel) (ok : w.Ok hs rs) (hh : hs ≤ 100) (hr : rs ≤ 100) (st : Strm w.ws b0) :
    ∃ rows, Bndl w.ws b0 rows ∧ runB C ⟨2, 12, bundleB tr lo⟩ [w.d, .tup (b0.map .int)] M = .ok (.v (.tup (rows.map brD))) M := by
  have hm2 := ok.m2
  have hb := st.len
  have enumW : ∀ (s : Env) (M : Mem), s[0]? = some (some w.d) → evI C (.enum (.ix (.var 0) (.num 0))) s M = .ok ((List.range w.ws.length).map fun k => .tup [.int (k : Nat), (wy w.ws k).d], []) M := fun s M h0 => by
    rw [itE (xIx (xV h0) xN (web0 w)), List.length_map]
    congr 2
    refine List.map_congr_left fun k hk => ?_
    rw [wyD (List.mem_range.mp hk)]
  have main : Ok (evSs C (bundleB tr lo) [some w.d, some (.tup (b0.map .int)), none, none, none, none, none, none, none, none, none, none] M) fun f M' => ∃ rows G, Bndl w.ws b0 rows ∧ f = .rt (.v (.tup (rows.map brD))) ∧ M' = M ++ G := by
    unfold bundleB
    have e2 : evE C (.bi .list (.val (.var 1))) [some w.d, some (.tup (b0.map .int)), none, none, none, none, none, none, none, none, none, none] M = .ok (.fl (b0.map .int)) M := by
      rw [evE, xV rfl, rbind_ok, biV2T]; rfl
    refine yL e2 ?_
    simp only [List.set]
    refine yL (xL xZ) ?_
    simp only [List.set, List.append_assoc, List.singleton_append, List.length_append, List.length_singleton]
    refine yL (compP (l := List.range w.ws.length) (a := fun k => .tup [.int (k : Nat), (wy w.ws k).d]) (fun k => decide ((wy w.ws k).b = none)) (fun k => .int (k : Nat)) (ss := []) (enumW _ _ rfl) (srcNil _) fun k hk => ⟨_, rfl, xTS (xCm (xIx (xV rfl) xN (wyB _)) xO (isNon _)), fun _ => xV rfl⟩) ?_
    simp only [List.set, List.append_assoc, List.cons_append, List.nil_append, List.length_append, List.length_cons, List.length_nil]
    have eo : evE C (.comp (.var 8) (.tp (.cons (.nm 8) (.cons (.nm 10) .nil))) (.enum (.ix (.var 0) (.num 0))) (.some (.cmp .isnot (.ix (.var 10) (.num 0)) .non)) [8, 10]) [some w.d, some (.tup (b0.map .int)), some (.ref M.length), some (.ref (M.length + 1)), some (.ref (M.length + (0 + 1 + 1))), none, none, none, none, none, none, none] (M ++ [O.lst (b0.map .int), .lst [], .lst (((List.range w.ws.length).filter fun k => decide ((wy w.ws k).b = none)).map fun k => .int (k : Nat))]) = .ok (.fl (intsD (others w.ws))) (M ++ [O.lst (b0.map .int), .lst [], .lst (((List.range w.ws.length).filter fun k => decide ((wy w.ws k).b = none)).map fun k => .int (k : Nat))]) :=
      compP (l := List.range w.ws.length) (a := fun k => .tup [.int (k : Nat), (wy w.ws k).d]) (fun k => decide ((wy w.ws k).b ≠ none)) (fun k => .int (k : Nat)) (ss := []) (enumW _ _ rfl) (srcNil _) fun k hk => ⟨_, rfl, xTS (xCm (xIx (xV rfl) xN (wyB _)) xO (notNon _)), fun _ => xV rfl⟩
    have ed : ((List.range w.ws.length).filter fun k => decide ((wy w.ws k).b = none)).map (fun k => D.int (k : Nat)) = intsD (door w.ws 0) := by rw [door_wy]; rfl
    rw [ed] at eo ⊢
    have g2 : (M ++ [O.lst (b0.map .int), .lst [], .lst (intsD (door w.ws 0))])[M.length + (0 + 1 + 1)]? = some (.lst (intsD (door w.ws 0))) := by
      have z : M ++ [O.lst (b0.map .int), .lst [], .lst (intsD (door w.ws 0))] = (M ++ [O.lst (b0.map .int), .lst []]) ++ .lst (intsD (door w.ws 0)) :: [] := by simp
      rw [z]; exact get_mid (by simp)
    have la : asM (M ++ [O.lst (b0.map .int), .lst [], .lst (intsD (door w.ws 0))]) (.v (.ref (M.length + (0 + 1 + 1)))) = some (intsD (door w.ws 0)) := by simp only [asM, g2]
    have l1 := door_len w.ws 0
    have l2 : (others w.ws).length ≤ w.ws.length := Nat.le_trans (List.length_filter_le _ _) (by rw [List.length_range]; exact Nat.le_refl _)
    have ea := addL la (show asM _ (.fl (intsD (others w.ws))) = _ from rfl) (by rw [intsD_len, intsD_len]; omega)
    rw [intsD_app] at ea
    refine yL (xOp (xV rfl) eo ea) ?_
    simp only [List.set]
    have eM : M ++ [O.lst (b0.map .int), .lst [], .lst (intsD (door w.ws 0))] ++ [.lst (intsD (door w.ws 0 ++ others w.ws))] = bm M b0 [] (door w.ws 0) (door w.ws 0 ++ others w.ws) [] := by unfold bm; simp
    have eL : (M ++ [O.lst (b0.map .int), .lst [], .lst (intsD (door w.ws 0))]).length = M.length + 3 := by simp
    rw [eM, eL]
    -- the loop
    generalize hS : door w.ws 0 ++ others w.ws = S
    have hSl : ∀ k ∈ S, k < w.ws.length := fun k hk => by
      rw [← hS] at hk
      rcases List.mem_append.mp hk with hk | hk
      · exact doors_at hk
      · exact List.mem_range.mp (List.mem_filter.mp hk).1
    have hSa : ∀ k, k < w.ws.length → k ∈ S := fun k hk => by
      rw [← hS, List.mem_append, door_wy]
      by_cases c : (wy w.ws k).b = none
      · exact .inl (List.mem_filter.mpr ⟨List.mem_range.mpr hk, decide_eq_true c⟩)
      · exact .inr (List.mem_filter.mpr ⟨List.mem_range.mpr hk, decide_eq_true c⟩)
    have hSo : ∀ (i k : Nat), S[i]? = some k → bgn w.ws k = none ∨ ∀ j, j < w.ws.length → bgn w.ws j = none → ∃ i', i' < i ∧ S[i']? = some j := fun i k hk => by
      by_cases c : bgn w.ws k = none
      · exact .inl c
      · right
        intro j hj ej
        rw [← hS] at hk ⊢
        have hi : (door w.ws 0).length ≤ i := by
          rcases Nat.lt_or_ge i (door w.ws 0).length with q | q
          · rw [List.getElem?_append_left q] at hk
            have := List.mem_of_getElem? hk
            rw [door_wy] at this
            have := of_decide_eq_true (List.mem_filter.mp this).2
            exact absurd (by rw [bgn_wy]; exact this) c
          · exact q
        have hjd : j ∈ door w.ws 0 := by
          rw [door_wy]
          exact List.mem_filter.mpr ⟨List.mem_range.mpr hj, decide_eq_true (by rw [bgn_wy] at ej; exact ej)⟩
        obtain ⟨i', hi', e'⟩ := List.getElem_of_mem hjd
        exact ⟨i', by omega, by rw [List.getElem?_append_left hi', List.getElem?_eq_getElem hi', e']⟩
    refine Ok.cons (Ok.for (Ok.of (itL bm3 (xV rfl)) ?_))
    refine forL_ok (fun i s M1 => ∃ (x5 x6 x7 x8 x9 x11 : Option D) (bs : List Int) (rows : List (List Nat × Int)) (G : Mem), s = [some w.d, some (.tup (b0.map .int)), some (.ref M.length), some (.ref (M.length + 1)), some (.ref (M.length + 3)), x5, x6, x7, x8, x9, none, x11] ∧ M1 = bm M bs rows (door w.ws 0) S G ∧ Bun w.ws b0 bs rows ∧ ∀ (j k : Nat), j < i → S[j]? = some k → nb bs k = 0) ?_ ?_ ⟨none, none, none, none, none, none, b0, [], [], rfl, rfl, ⟨st.flow, fun k _ => by unfold rowsAt; simp, fun p hp => (by cases hp), ?_⟩, fun j k hj => absurd hj (Nat.not_lt_zero _)⟩
    · rintro i d s M1 hd ⟨x5, x6, x7, x8, x9, x11, bs, rows, G, rfl, rfl, B, zs⟩
      obtain ⟨k0, hk0, rfl⟩ := at_map (f := fun k : Nat => D.int (k : Nat)) hd
      have hkl := hSl k0 (List.mem_of_getElem? hk0)
      simp only [asgT, List.set]
      refine Ok.cons ?_
      rw [evS]
      refine Ok.mono (whl_ok (P := fun fl M1 => ∃ (x6 x7 x8 x9 x11 : Option D) (bs : List Int) (rows : List (List Nat × Int)) (G : Mem), fl = .nx [some w.d, some (.tup (b0.map .int)), some (.ref M.length), some (.ref (M.length + 1)), some (.ref (M.length + 3)), some (.int (k0 : Nat)), x6, x7, x8, x9, none, x11] ∧ M1 = bm M bs rows (door w.ws 0) S G ∧ Bun w.ws b0 bs rows ∧ ∀ (j k : Nat), j < i + 1 → S[j]? = some k → nb bs k = 0)
        (fun n s M1 => ∃ (x6 x7 x8 x9 x11 : Option D) (bs : List Int) (rows : List (List Nat × Int)) (G : Mem), s = [some w.d, some (.tup (b0.map .int)), some (.ref M.length), some (.ref (M.length + 1)), some (.ref (M.length + 3)), some (.int (k0 : Nat)), x6, x7, x8, x9, none, x11] ∧ M1 = bm M bs rows (door w.ws 0) S G ∧ Bun w.ws b0 bs rows ∧ (∀ (j k : Nat), j < i → S[j]? = some k → nb bs k = 0) ∧ n = posC w.ws bs) ?_ (posC w.ws bs) C.fuel _ _ (by have := B.cnt; omega) ⟨x6, x7, x8, x9, x11, bs, rows, G, rfl, rfl, B, zs, rfl⟩) ?_
      · rintro n s M1 ⟨x6, x7, x8, x9, x11, bs, rows, G, rfl, rfl, B, zs, rfl⟩
        have ec := xCm (C := C) (o := .gt) (s := [some w.d, some (.tup (b0.map .int)), some (.ref M.length), some (.ref (M.length + 1)), some (.ref (M.length + 3)), some (.int (k0 : Nat)), x6, x7, x8, x9, none, x11]) (r := decide (0 < nb bs k0)) (xIx (xV (i := 2) rfl) (xV (i := 5) rfl) (ixNbL (M := bm M bs rows (door w.ws 0) S G) bm0 (by rw [B.flow.len]; exact hkl))) (xN (i := 0)) rfl
        rw [ec, rbind_ok]
        refine .ret ?_
        cases hc : decide (0 < nb bs k0) with
        | false =>
          refine ⟨x6, x7, x8, x9, x11, bs, rows, G, rfl, rfl, B, fun j k hj hk => ?_⟩
          rcases Nat.lt_or_ge j i with q | q
          · exact zs j k q hk
          · rw [show j = i by omega, hk0] at hk
            cases hk
            have := of_decide_eq_false hc
            have := B.flow.pos k0 hkl
            omega
        | true =>
          have hpos := of_decide_eq_true hc
          have hd : bgn w.ws k0 = none ∨ ∀ k, k < w.ws.length → Ev.fin w.ws k = none → nb bs k = 0 := by
            rcases hSo i k0 hk0 with q | q
            · exact .inl q
            · exact .inr (B.flow.noOut ok.wo fun k hk ek => by obtain ⟨i', h1, h2⟩ := q k hk ek; exact zs i' k h1 h2)
          refine (bundle_turn ht hl ok hh hr B hkl hpos hd x6 x7 x8 x9 none x11).mono ?_
          rintro f M2 ⟨y6, y7, y8, y9, y11, bs', rows', G', rfl, rfl, B', less, zero⟩
          exact ⟨posC w.ws bs', less, y6, y7, y8, y9, y11, bs', rows', G', rfl, rfl, B', fun j k hj hk => zero k (hSl k (List.mem_of_getElem? hk)) (zs j k hj hk), rfl⟩
      · rintro fl M1 ⟨x6, x7, x8, x9, x11, bs, rows, G, rfl, rfl, B, zs⟩
        exact Ok.nil ⟨src1 bm3, _, x6, x7, x8, x9, x11, bs, rows, G, rfl, rfl, B, zs⟩
    · rintro s M1 ⟨x5, x6, x7, x8, x9, x11, bs, rows, G, rfl, rfl, B, zs⟩
      rw [show (intsD S, [(M.length + 3, O.lst (intsD S))]).1.length = S.length from intsD_len S] at zs
      refine yR (bTupL bm1 (xV rfl)) ⟨rows, _, ⟨B.good, fun k hk => ?_, by have := B.cnt; omega⟩, rfl, rfl⟩
      obtain ⟨j, hj, ej⟩ := List.getElem_of_mem (hSa k hk)
      have z := zs j k hj (by rw [List.getElem?_eq_getElem hj, ej])
      have := B.acc k hk
      omega
    · show 0 + posC w.ws b0 ≤ w.ws.length
      rw [Nat.zero_add]
      exact Nat.le_trans (List.length_filter_le _ _) (by rw [List.length_range]; exact Nat.le_refl _)
  obtain ⟨f, M', e, rows, G, hB, rfl, rfl⟩ := main
  exact ⟨rows, hB, runB_gar rfl e (brs_pure rows)⟩
end
end Ev

/-! EvK4: bundles called; rows laid on. -/
namespace Ev
open PySem
theorem lvl_ok {defs : List FD} {glb : Nat → D} {fuel n f : Nat} {l : List D} {M : Mem} {fd : FD} {P : W → Mem → Prop} (e : defs[f]? = some fd) (h : Ok (runB (lvl defs glb fuel n) fd l M) P) : Ok ((lvl defs glb fuel (n + 1)).call f l M) P := by
  show Ok (callF defs glb fuel (n + 1) f l M) P
  rw [callF_succ e]
  exact h
def IsBundle (C : Cl) (f : Nat) : Prop := ∀ {hs rs : Nat} {w : Web} {b0 : List Int} (_ : w.Ok hs rs) (_ : hs ≤ 100) (_ : rs ≤ 100) (_ : Strm w.ws b0) (M : Mem), ∃ rows, Bndl w.ws b0 rows ∧ C.call f [w.d, .tup (b0.map .int)] M = .ok (.v (.tup (rows.map brD))) M
section
variable {C : Cl} {bs : List Int} {row : List Nat} {m : Int} {B : Nat} {A Y M : Mem} {s : Env}
/-- bears[k] = bears[k] + few for k in roads, a tuple -/
theorem layT_ok {l : Nat} (hl : s.length = l) (hl12 : 12 < l) (h7 : s[7]? = some (some (.ref (4 + A.length)))) (h9 : s[9]? = some (some (.tup (intsD row)))) (h11 : s[11]? = some (some (.int m))) (nd : row.Nodup) (hr : ∀ k ∈ row, k < bs.length) (h : Dk B (A ++ .lst (bs.map .int) :: Y) M) :
    Ok (evS C (.for_ (.nm 12) (.val (.var 9)) (.cons (.setix (.var 7) (.var 12) (.bop .add (.ix (.var 7) (.var 12)) (.var 11))) .nil)) s M) fun f M' => ∃ x, f = .nx (s.set 12 x) ∧ Dk B (A ++ .lst ((more bs row m).map .int) :: Y) M' := by
  refine Ok.for (Ok.of (itT (xV h9)) ?_)
  refine forL_ok (fun i s1 M1 => ∃ x : Option D, s1 = s.set 12 x ∧ Dk B (A ++ .lst ((more bs (row.take i) m).map .int) :: Y) M1) ?_ ?_ ⟨s[12]'(by omega), by simp, by simpa [more_nil] using h⟩
  · rintro i d s1 M1 hd ⟨x, rfl, h1⟩
    obtain ⟨k, hk, rfl⟩ := at_map (f := fun k : Nat => D.int (k : Nat)) hd
    have hkm := List.mem_of_getElem? hk
    have hnot : k ∉ row.take i := fun z => by
      obtain ⟨j, hj, ej⟩ := List.getElem_of_mem z
      rw [List.getElem_take] at ej
      rw [List.length_take] at hj
      have e1 : row[j]? = some k := by rw [List.getElem?_eq_getElem (by omega), ej]
      obtain ⟨a1, b1⟩ := List.getElem?_eq_some_iff.mp e1
      obtain ⟨a2, b2⟩ := List.getElem?_eq_some_iff.mp hk
      have := (List.getElem_inj nd).mp (b1.trans b2.symm)
      omega
    have hkl : k < (more bs (row.take i) m).length := by rw [more_len]; exact hr k hkm
    have hb := nb_get hkl
    have f : ∀ j, j ≠ 12 → (s.set 12 (some (D.int (k : Nat))))[j]? = s[j]? := fun j hj => List.getElem?_set_ne (Ne.symm hj)
    have f12 : (s.set 12 (some (D.int (k : Nat))))[12]? = some (some (.int (k : Nat))) := List.getElem?_set_self (by omega)
    have hA : M1[4 + A.length]? = some (.lst ((more bs (row.take i) m).map .int)) := h1.mid
    have ixb : ixW M1 (.v (.ref (4 + A.length))) (.v (.int (k : Nat))) = some (.v (.int (nb (more bs (row.take i) m) k))) := ixNbL hA hkl
    have sq : seqIx ((more bs (row.take i) m).map D.int).length (k : Int) = some k := seqI (by rw [List.length_map]; exact hkl)
    simp only [asgT, List.set_set]
    refine Ok.cons ?_
    simp only [evS, evE, f 7 (by decide), f 11 (by decide), f12, h7, h11, rbind_ok, ixb, ropt_some, addI, Res.put, put, hA, sq]
    refine .ret (Ok.nil ?_)
    have h2 := h1.setMid (.lst ((more bs (row.take (i + 1)) m).map .int))
    have e : ((more bs (row.take i) m).map D.int).set k (.int (nb (more bs (row.take i) m) k + m)) = (more bs (row.take (i + 1)) m).map .int := by
      rw [← List.map_set, more_cons bs (row.take i) k m _ hnot hb, List.take_succ, hk]
      rfl
    rw [e]
    exact ⟨srcNil _, some (.int (k : Nat)), rfl, h2⟩
  · rintro s1 M1 ⟨x, rfl, h1⟩
    rw [show (intsD row, ([] : List (Nat × O))).1.length = row.length from intsD_len row, List.take_length] at h1
    exact ⟨x, rfl, h1⟩
end
theorem Good.doors {ws : List Way} {R : List Nat} (g : Good ws R) : ((R.filter fun k => decide ((ws[k]?.map (Way.side 0)) = some none)).length : Int) = if (R.map (bgn ws)).head? = some none then 1 else 0 := by
  have e : (R.filter fun k => decide ((ws[k]?.map (Way.side 0)) = some none)) = R.filter fun k => decide (bgn ws k = none) := by
    refine List.filter_congr fun k hk => ?_
    have hk' := lit_lt (g.ring.lit k hk)
    rw [bgn_wy, wy_get hk']
    simp [Way.side]
  rw [e, count_filter]
  have nd := g.ring.nd
  have hd := g.hd
  cases hb : R.map (bgn ws) with
  | nil => simp
  | cons a r =>
    rw [hb] at nd hd
    have n1 := (List.nodup_cons.mp nd).1
    have fr : r.filter (fun x => decide (x = none)) = [] ∨ none ∈ r := by
      by_cases c : none ∈ r
      · exact .inr c
      · left
        rw [List.filter_eq_nil_iff]
        intro x hx z
        exact c (of_decide_eq_true z ▸ hx)
    cases a with
    | none =>
      rcases fr with fr | fr
      · simp [fr]
      · exact absurd fr n1
    | some x =>
      rcases fr with fr | fr
      · simp [fr]
      · have := hd (List.mem_cons_of_mem _ fr)
        simp at this
theorem rowsAt_take {rows : List (List Nat × Int)} {i k : Nat} {p : List Nat × Int} (h : rows[i]? = some p) : rowsAt (rows.take (i + 1)) k = rowsAt (rows.take i) k + if k ∈ p.1 then p.2 else 0 := by
  rw [List.take_succ, h]
  exact rowsAt_app _ _ _
theorem rowsAt_le {rows : List (List Nat × Int)} (h : ∀ p ∈ rows, 1 ≤ p.2) {p : List Nat × Int} (hp : p ∈ rows) {k : Nat} (hk : k ∈ p.1) : p.2 ≤ rowsAt rows k := by
  induction rows with
  | nil => cases hp
  | cons a r ih =>
    have h0 : ∀ l : List (List Nat × Int), (∀ p ∈ l, 1 ≤ p.2) → 0 ≤ rowsAt l k := by
      intro l hl
      induction l with
      | nil => exact Int.le_refl _
      | cons b t it =>
        have := it fun p hp => hl p (List.mem_cons_of_mem _ hp)
        have hb := hl b (List.mem_cons_self ..)
        unfold rowsAt at this ⊢
        rw [List.map_cons, List.sum_cons]
        split <;> omega
    have hr := h0 r fun p hp => h p (List.mem_cons_of_mem _ hp)
    have ha := h a (List.mem_cons_self ..)
    have e : rowsAt (a :: r) k = (if k ∈ a.1 then a.2 else 0) + rowsAt r k := by unfold rowsAt; rw [List.map_cons, List.sum_cons]
    rw [e]
    rcases List.mem_cons.mp hp with rfl | hp
    · rw [if_pos hk]; omega
    · have := ih (fun p hp => h p (List.mem_cons_of_mem _ hp)) hp
      split <;> omega
end Ev

/-! EvR: what repr tells of plain things. -/
namespace Ev
open PySem
/-- so deep, so much within, at most -/
inductive Pr : Nat → Nat → D → Prop
  | non (n b : Nat) : Pr n b .non
  | bl (n b : Nat) (i : Bool) : Pr n b (.bl i)
  | int (n b : Nat) (i : Int) : i.natAbs < 10 ^ 40 → Pr n b (.int i)
  | tup (n b c : Nat) (l : List D) : (∀ x ∈ l, Pr n c x) → l.length * (c + 1) ≤ b → Pr (n + 1) b (.tup l)
structure Shw (n b : Nat) (p : PyData) : Prop where
  sh : p.showable = true
  nd : p.hasDict = false
  dp : p.depth ≤ n
  bk : p.bulk ≤ b
  ls : p.leavesShort 50 = true
theorem shw_all {n c : Nat} (f : Nat → Option PyData) : ∀ {l : List D}, (∀ x ∈ l, ∃ p, (∀ f, D.pdR f x = some p) ∧ Shw n c p) → ∃ ps, (∀ f, D.pdRs f l = some ps) ∧ PyData.showableAll ps = true ∧ PyData.hasDictAll ps = false ∧ PyData.depthAll ps ≤ n ∧ PyData.bulkAll ps ≤ l.length * (c + 1) ∧ PyData.leavesShortAll 50 ps = true
  | [], _ => ⟨[], fun f => rfl, rfl, rfl, by rw [PyData.depthAll]; omega, by rw [PyData.bulkAll]; omega, rfl⟩
  | x :: r, h => by
    obtain ⟨p, e, s⟩ := h x (List.mem_cons_self ..)
    obtain ⟨ps, e2, s1, s2, s3, s4, s5⟩ := shw_all f fun y hy => h y (List.mem_cons_of_mem _ hy)
    refine ⟨p :: ps, fun f => by rw [D.pdRs, e, e2], by rw [PyData.showableAll, s.sh, s1]; rfl, by rw [PyData.hasDictAll, s.nd, s2]; rfl, ?_, ?_, by rw [PyData.leavesShortAll, s.ls, s5]; rfl⟩
    · have := s.dp
      rw [PyData.depthAll]; omega
    · have := s.bk
      rw [PyData.bulkAll, List.length_cons, Nat.add_mul]
      omega
theorem Pr.shw : ∀ {n b : Nat} {d : D}, Pr n b d → ∃ p, (∀ f, D.pdR f d = some p) ∧ Shw n b p := by
  intro n b d h
  induction h with
  | non n b => exact ⟨.none, fun f => rfl, rfl, rfl, by rw [PyData.depth]; omega, by rw [PyData.bulk]; omega, rfl⟩
  | bl n b i => exact ⟨.bool i, fun f => rfl, rfl, rfl, by rw [PyData.depth]; omega, by rw [PyData.bulk]; omega, rfl⟩
  | int n b i hi =>
    refine ⟨.int i, fun f => rfl, ?_, rfl, by rw [PyData.depth]; omega, by rw [PyData.bulk]; omega, ?_⟩
    · rw [PyData.showable, decide_eq_true_eq]
      by_cases h0 : i.natAbs = 0
      · rw [h0]; decide
      · refine (Nat.log2_lt h0).mpr (Nat.lt_of_lt_of_le hi ?_)
        exact Nat.le_trans (show (10 : Nat) ^ 40 ≤ 2 ^ 140 by decide) (Nat.pow_le_pow_right (by decide) (by decide))
    · rw [PyData.leavesShort, decide_eq_true_eq]
      have z := PySem.int_text_length_le10 (a := i) (k := 40) (by decide) hi
      have e : (PyData.shown (.int i)).length = (toString i).length := by
        exact ofString_length _
      omega
  | tup n b c l hl hb ih =>
    obtain ⟨ps, e, s1, s2, s3, s4, s5⟩ := shw_all (fun _ => none) ih
    refine ⟨.tuple ps, fun f => by rw [D.pdR, e], by rw [PyData.showable]; exact s1, by rw [PyData.hasDict]; exact s2, ?_, by rw [PyData.bulk]; omega, by rw [PyData.leavesShort]; exact s5⟩
    rw [PyData.depth]; omega
theorem Pr.repr {n b : Nat} {d : D} (h : Pr n b d) (hn : n ≤ 64) (hb : b ≤ 100000) : ∃ z, ∀ M, reprW M (.v d) = some z := by
  obtain ⟨p, e, s⟩ := h.shw
  refine ⟨p.shown, fun M => ?_⟩
  have ep : pdW M (.v d) = some p := e _
  have hl := PyData.shown_le_bulk 50 (by decide) p s.ls
  have hk := s.bk
  have hz : p.shown.length ≤ 16777216 := by omega
  have hd : p.depth ≤ 64 := Nat.le_trans s.dp hn
  simp only [reprW, ep]
  exact if_pos ⟨s.sh, hd, hz⟩
theorem cmpNeS {M : Mem} (a b : Str) : cmpW .ne M (.v (.str a)) (.v (.str b)) = some (!decide (a = b)) := rfl
/-! webs -/
theorem endD_pr (n b : Nat) (o : Option Nat) (h : ∀ k, o = some k → k < 1000) : Pr n b (endD o) := by
  cases o with
  | none => exact .non _ _
  | some k =>
    refine .int _ _ _ ?_
    have := h k rfl
    have e : (10 : Nat) ^ 40 = 10000000000000000000000000000000000000000 := by decide
    rw [e]; omega
theorem Way.pr {n : Nat} {y : Way} (h : y.Ok n) (hn : n ≤ 1000) : Pr 1 3 y.d := by
  refine .tup 0 3 0 _ (fun x hx => ?_) (by simp)
  simp only [List.mem_cons, List.not_mem_nil, or_false] at hx
  rcases hx with rfl | rfl | rfl
  · exact endD_pr _ _ _ fun k e => Nat.lt_of_lt_of_le (h.b0 k e) hn
  · exact endD_pr _ _ _ fun k e => Nat.lt_of_lt_of_le (h.e0 k e) hn
  · refine .int _ _ _ ?_
    have e : (10 : Nat) ^ 40 = 10000000000000000000000000000000000000000 := by decide
    have a := h.r0
    have b := h.r1
    rw [e]; omega
theorem row_pr {r : List Nat} (h : ∀ k ∈ r, k < 1000) (hl : r.length ≤ 100) : Pr 1 100 (rowD r) := by
  refine .tup 0 100 0 _ (fun x hx => ?_) (by rw [List.length_map]; omega)
  obtain ⟨k, hk, rfl⟩ := List.mem_map.mp hx
  refine .int _ _ _ ?_
  have e : (10 : Nat) ^ 40 = 10000000000000000000000000000000000000000 := by decide
  have := h k hk
  rw [e]; omega
theorem rows_pr {ws : List Way} {sd n : Nat} {o : List (List Nat)} (h : RowsOk ws sd n o) (hw : ws.length ≤ 100) (hn : n ≤ 100) : Pr 2 10100 (.tup (o.map rowD)) := by
  refine .tup 1 10100 100 _ (fun x hx => ?_) (by rw [List.length_map, h.1]; omega)
  obtain ⟨r, hr, rfl⟩ := List.mem_map.mp hx
  obtain ⟨i, hi, rfl⟩ := List.getElem_of_mem hr
  have p := h.2 i _ (List.getElem?_eq_getElem hi)
  have wl := want_len ws sd i
  refine row_pr (fun k hk => ?_) (by rw [p.length_eq]; omega)
  have := List.mem_range.mp (List.mem_filter.mp (p.mem_iff.mp hk)).1
  omega
theorem Web.pr {hs rs : Nat} {y : Web} (h : y.Ok hs rs) (hh : hs ≤ 100) (hr : rs ≤ 100) : Pr 3 30303 y.d := by
  have n2 := h.n2
  have m2 := h.m2
  refine .tup 2 30303 10100 _ (fun x hx => ?_) (by simp)
  simp only [List.mem_cons, List.not_mem_nil, or_false] at hx
  rcases hx with rfl | rfl | rfl
  · refine .tup 1 _ 3 _ (fun x hx => ?_) (by rw [List.length_map]; omega)
    obtain ⟨w, hw, rfl⟩ := List.mem_map.mp hx
    exact Way.pr (h.wo w hw) (by omega)
  · exact rows_pr h.p0 (by omega) (by omega)
  · exact rows_pr h.p1 (by omega) (by omega)
theorem Web.repr {hs rs : Nat} {y : Web} (h : y.Ok hs rs) (hh : hs ≤ 100) (hr : rs ≤ 100) : ∃ z, ∀ M, reprW M (.v y.d) = some z := (Web.pr h hh hr).repr (by decide) (by decide)
end Ev

/-! EvQ1: odd things drawn, things bent. -/
namespace Ev
open PySem
/-- what a call made of odd things leaves: nothing new, a new list, or new things in the frame -/
def Out (Z X : Mem) (B r n b : Nat) (w : W) (M' : Mem) : Prop :=
  (Dk B (Z ++ X) M' ∧ ∃ d, w = .v d ∧ Gd (4 + Z.length) X r n b d) ∨ (Dk B (Z ++ X) M' ∧ ∃ l, w = .fl l ∧ r ≠ 0 ∧ 1 ≤ n ∧ GdL (4 + Z.length) X (r - 1) (n - 1) b l) ∨ (∃ Y d, Dk B (Z ++ (X ++ Y)) M' ∧ w = .v d ∧ Gd (4 + Z.length) (X ++ Y) r n b d ∧ D.bel (4 + Z.length + X.length) d = false ∧ ∀ k, d = .ref k → ∃ l, M'[k]? = some (.dct l))
theorem Out.mono {Z X : Mem} {B r n b B' r' n' b' : Nat} {w : W} {M' : Mem} (h : Out Z X B r n b w M') (h1 : B ≤ B') (h2 : r ≤ r') (h3 : n ≤ n') (h4 : b ≤ b') : Out Z X B' r' n' b' w M' := by
  rcases h with ⟨k, d, e, g⟩ | ⟨k, l, e, h0, h1', g⟩ | ⟨Y, d, k, e, g, bl, nl⟩
  · exact .inl ⟨k.mono h1, d, e, g.mono h2 h3 h4⟩
  · exact .inr (.inl ⟨k.mono h1, l, e, by omega, by omega, g.mono (by omega) (by omega) h4⟩)
  · exact .inr (.inr ⟨Y, d, k.mono h1, e, g.mono h2 h3 h4, bl, nl⟩)
/-- it gets its place -/
theorem Out.put {Z X : Mem} {B r n b : Nat} {w : W} {M' : Mem} (h : Out Z X B r n b w M') : ∃ Y, Dk B (Z ++ (X ++ Y)) (Ev.put w M').2 ∧ Gd (4 + Z.length) (X ++ Y) r n b (Ev.put w M').1 ∧ (Y = [] ∨ D.bel (4 + Z.length + X.length) (Ev.put w M').1 = false) := by
  rcases h with ⟨k, d, e, g⟩ | ⟨k, l, e, h0, h1, g⟩ | ⟨Y, d, k, e, g, bl, nl⟩
  · subst e
    exact ⟨[], by rw [List.append_nil]; exact k, by rw [List.append_nil]; exact g, .inl rfl⟩
  · subst e
    obtain ⟨g0, rs, ps, c, h2, h3, h4⟩ := k
    have hl : M'.length = 4 + Z.length + X.length := by rw [h4]; simp [dk]; omega
    refine ⟨[.lst l], ⟨g0, rs, ps, c, h2, h3, by show M' ++ _ = _; rw [h4, List.append_assoc, List.append_assoc]⟩, ?_, .inr ?_⟩
    · show Gd _ _ r n b (.ref M'.length)
      rw [hl]
      have z := GdL.lst g
      rw [show r - 1 + 1 = r by omega, show n - 1 + 1 = n by omega] at z
      exact z
    · show D.bel _ (.ref M'.length) = false
      rw [D.bel, hl]
      exact decide_eq_false (by omega)
  · subst e
    exact ⟨Y, k, g, .inr bl⟩
mutual
theorem bel_good {c : Nat} {g X : Mem} (hg : g.length = c) {r : Nat} : ∀ {d : D} {p : PyData}, d.pdR (refPd (g ++ X) r) = some p → D.bel (c + X.length) d = true
  | .non, _, _ => rfl
  | .bl _, _, _ => rfl
  | .int _, _, _ => rfl
  | .str _, _, _ => rfl
  | .scr _, _, _ => rfl
  | .ref n, p, h => by
    rw [D.bel]
    refine decide_eq_true ?_
    rw [D.pdR] at h
    cases r with
    | zero => cases h
    | succ r =>
      rw [refPd] at h
      cases hn : (g ++ X)[n]? with
      | none => rw [hn] at h; cases h
      | some o =>
        have := (List.getElem?_eq_some_iff.mp hn).1
        rw [List.length_append, hg] at this
        exact this
  | .tup l, p, h => by
    rw [D.bel]
    rw [D.pdR] at h
    cases e : D.pdRs (refPd (g ++ X) r) l with
    | none => rw [e] at h; cases h
    | some ps => exact bels_good hg e
theorem bels_good {c : Nat} {g X : Mem} (hg : g.length = c) {r : Nat} : ∀ {l : List D} {ps : List PyData}, D.pdRs (refPd (g ++ X) r) l = some ps → D.bels (c + X.length) l = true
  | [], _, _ => rfl
  | d :: l, ps, h => by
    rw [D.pdRs] at h
    cases e1 : d.pdR (refPd (g ++ X) r) with
    | none => rw [e1] at h; cases h
    | some x =>
      cases e2 : D.pdRs (refPd (g ++ X) r) l with
      | none => rw [e1, e2] at h; cases h
      | some xs => rw [D.bels, bel_good hg e1, bels_good hg e2]; rfl
end
theorem Gd.bel {c : Nat} {X : Mem} {r n b : Nat} {d : D} (h : Gd c X r n b d) : D.bel (c + X.length) d = true := by
  obtain ⟨p, h1, _⟩ := h
  exact bel_good List.length_replicate (h1 (List.replicate c (O.lst [])) List.length_replicate)
theorem GdL.bel {c : Nat} {X : Mem} {r n b : Nat} {d : List D} (h : GdL c X r n b d) : D.bels (c + X.length) d = true := by
  obtain ⟨p, h1, _⟩ := h
  exact bels_good List.length_replicate (h1 (List.replicate c (O.lst [])) List.length_replicate)
theorem dk_at {g : O} {rs ps : List Int} {c : Int} {Y : Mem} {i : Nat} {o : O} (h : (dk g rs ps c ++ Y)[i]? = some o) : (i < 4 ∧ o.bel 4 = true ∨ i < 4 ∧ g = o) ∨ (4 ≤ i ∧ Y[i - 4]? = some o) := by
  rcases Nat.lt_or_ge i 4 with c4 | c4
  · left
    rw [List.getElem?_append_left (by simpa [dk] using c4)] at h
    match i, c4 with
    | 0, _ => simp [dk] at h; exact .inr ⟨by omega, h⟩
    | 1, _ =>
      simp [dk] at h; subst h
      refine .inl ⟨by omega, ?_⟩
      rw [O.bel]
      exact pures_bel 4 (pures_all fun d hd => by obtain ⟨i, _, rfl⟩ := List.mem_map.mp hd; rfl)
    | 2, _ =>
      simp [dk] at h; subst h
      refine .inl ⟨by omega, ?_⟩
      rw [O.bel]
      exact pures_bel 4 (pures_all fun d hd => by obtain ⟨i, _, rfl⟩ := List.mem_map.mp hd; rfl)
    | 3, _ => simp [dk] at h; subst h; exact .inl ⟨by omega, rfl⟩
  · right
    rw [List.getElem?_append_right (by simpa [dk] using c4)] at h
    exact ⟨c4, by simpa [dk] using h⟩
mutual
theorem bel_le {a b : Nat} (h : a ≤ b) : ∀ {d : D}, D.bel a d = true → D.bel b d = true
  | .non, _ => rfl
  | .bl _, _ => rfl
  | .int _, _ => rfl
  | .str _, _ => rfl
  | .scr _, _ => rfl
  | .ref n, q => by rw [D.bel, decide_eq_true_eq] at q ⊢; omega
  | .tup l, q => by rw [D.bel] at q ⊢; exact bels_le h q
theorem bels_le {a b : Nat} (h : a ≤ b) : ∀ {l : List D}, D.bels a l = true → D.bels b l = true
  | [], _ => rfl
  | d :: l, q => by
    rw [D.bels, Bool.and_eq_true] at q
    rw [D.bels, bel_le h q.1, bels_le h q.2]; rfl
end
theorem obel_le {a b : Nat} (h : a ≤ b) {o : O} (q : o.bel a = true) : o.bel b = true := by
  cases o with
  | lst l => exact bels_le h q
  | dct l => exact bels_le h q
  | ins c l => exact bels_le h q
theorem pre_dk {B B' : Nat} {Z X Y M M1 : Mem} (h : Dk B (Z ++ X) M) (h1 : Dk B' (Z ++ (X ++ Y)) M1) : Pre M.length M M1 := h.pre (by rw [List.append_assoc]; exact h1)
theorem dk_take {B B' : Nat} {Z X Y M M1 : Mem} (h : Dk B (Z ++ X) M) (h1 : Dk B' (Z ++ (X ++ Y)) M1) : Dk B' (Z ++ X) (M1.take M.length) := h.cut (by rw [List.append_assoc]; exact h1)
theorem len_dk {B : Nat} {Z X M : Mem} (h : Dk B (Z ++ X) M) : M.length = 4 + Z.length + X.length := by rw [h.len, List.length_append]; omega
theorem nr' {d : D} {M' : Mem} (nr : ∀ k, d ≠ .ref k) : ∀ k, d = .ref k → ∃ l, M'[k]? = some (.dct l) := fun k e => absurd e (nr k)
/-- a call's end -/
theorem leave_out {B B' : Nat} {Z X Y M M1 : Mem} {d : D} {r n b : Nat} (h : Dk B (Z ++ X) M) (h1 : Dk B' (Z ++ (X ++ Y)) M1) (c : Gd (4 + Z.length) X r n b d ∨ (Gd (4 + Z.length) (X ++ Y) r n b d ∧ D.bel (4 + Z.length + X.length) d = false ∧ ∀ k, d ≠ .ref k)) : Ok (leave M (.v d) M1) fun w M' => Out Z X B' r n b w M' := by
  have hp := pre_dk h h1
  have hl := len_dk h
  unfold leave
  rw [if_pos hp]
  rcases c with c | ⟨c, bl, nr⟩
  · rw [if_pos (by rw [W.bel, hl]; exact c.bel)]
    refine .ret (.inl ⟨?_, d, rfl, c⟩)
    exact dk_take h h1
  · rw [if_neg (by rw [W.bel, hl, bl]; decide)]
    cases d with
    | ref k => exact absurd rfl (nr k)
    | _ => exact .ret (.inr (.inr ⟨Y, _, h1, rfl, c, bl, nr' nr⟩))
/-- a new list at a call's end -/
theorem leave_outL {B B' : Nat} {Z X Y M M1 : Mem} {l : List D} {r n b : Nat} (h : Dk B (Z ++ X) M) (h1 : Dk B' (Z ++ (X ++ Y)) M1) (c : GdL (4 + Z.length) X r n b l) : Ok (leave M (.fl l) M1) fun w M' => Out Z X B' (r + 1) (n + 1) b w M' := by
  have hp := pre_dk h h1
  have hl := len_dk h
  unfold leave
  rw [if_pos hp, if_pos (by rw [W.bel, hl]; exact c.bel)]
  refine .ret (.inr (.inl ⟨?_, l, rfl, by omega, by omega, by simpa using c⟩))
  exact dk_take h h1
theorem leave_any {B B' : Nat} {Z X M M1 : Mem} {w : W} {r n b : Nat} (h : Dk B (Z ++ X) M) (h1 : Out Z X B' r n b w M1) : Ok (leave M w M1) fun w M' => Out Z X B' r n b w M' := by
  rcases h1 with ⟨k, d, e, g⟩ | ⟨k, l, e, h0, h1, g⟩ | ⟨Y, d, k, e, g, bl, nl⟩
  · subst e
    exact leave_out h (Y := []) (by rw [List.append_nil]; exact k) (.inl g)
  · subst e
    have z := leave_outL h (Y := []) (by rw [List.append_nil]; exact k) g
    rw [show r - 1 + 1 = r by omega, show n - 1 + 1 = n by omega] at z
    exact z
  · subst e
    have hp := pre_dk h k
    have hl := len_dk h
    unfold leave
    rw [if_pos hp, if_neg (by rw [W.bel, hl, bl]; decide)]
    cases d with
    | ref k0 =>
      obtain ⟨l, e⟩ := nl k0 rfl
      simp only [e]
      exact .ret (.inr (.inr ⟨Y, _, k, rfl, g, bl, nl⟩))
    | _ => exact .ret (.inr (.inr ⟨Y, _, k, rfl, g, bl, nl⟩))
end Ev

/-! EvQ2: odd things drawn. -/
namespace Ev
open PySem
def oddB (f_next : Nat) : Ss := (.cons (.asg (.nm 1) (.lst (.cons .non (.cons (.bl true) (.cons (.bl false) (.cons (.num 0) (.cons (.num 1) (.cons (.neg (.num 1)) (.cons (.num 9) (.cons (.bop .add (.bop .pow (.num 10) (.num 12)) (.num 1)) (.cons (.bop .pow (.num 10) (.num 29)) (.cons (.str "") (.cons (.str "0") (.cons (.tup .nil) (.cons (.tup (.cons (.num 0) .nil)) (.cons (.tup (.cons .non .nil)) (.cons (.lst .nil) (.cons (.lst (.cons (.num 0) .nil)) (.cons .dnew (.cons (.tup (.cons (.tup .nil) .nil)) .nil))))))))))))))))))))
  (.cons (.ret (.ix (.var 1) (.call f_next (.cons (.var 0) (.cons (.num 18) .nil)))))
  .nil))
/-- the odd things that have no place -/
def oddA : List D := [.non, .bl true, .bl false, .int 0, .int 1, .int (-1), .int 9, .int 1000000000001, .int 100000000000000000000000000000, .str "", .str "0", .tup [], .tup [.int 0], .tup [.non]]
def oddL (p : Nat) : List D := oddA ++ [.ref p, .ref (p + 1), .ref (p + 2), .tup [.tup []]]
section
variable {C : Cl} {s : Env} {M M1 M2 : Mem}
theorem xCN {r : Es} {l : List D} (h2 : evEs C r s (M ++ [.dct []]) = .ok l M2) : evEs C (.cons .dnew r) s M = .ok (.ref M.length :: l) M2 := by
  rw [evEs, evE]; show (evEs C r s (M ++ [.dct []])).bind _ = _; rw [h2]; rfl
theorem xCF' {e : E} {r : Es} {k l : List D} {q : Nat} (hq : M1.length = q) (h1 : evE C e s M = .ok (.fl k) M1) (h2 : evEs C r s (M1 ++ [.lst k]) = .ok l M2) : evEs C (.cons e r) s M = .ok (.ref q :: l) M2 := by subst hq; exact xCF h1 h2
theorem xCN' {r : Es} {l : List D} {q : Nat} (hq : M.length = q) (h2 : evEs C r s (M ++ [.dct []]) = .ok l M2) : evEs C (.cons .dnew r) s M = .ok (.ref q :: l) M2 := by subst hq; exact xCN h2
theorem pow12 : opW .pow M (.v (.int 10)) (.v (.int 12)) = some (.v (.int 1000000000000)) := by
  simp only [opW]
  rw [if_pos (by decide)]
  rfl
theorem pow29 : opW .pow M (.v (.int 10)) (.v (.int 29)) = some (.v (.int 100000000000000000000000000000)) := by
  simp only [opW]
  rw [if_pos (by decide)]
  rfl
theorem odd_list : evE C (.lst (.cons .non (.cons (.bl true) (.cons (.bl false) (.cons (.num 0) (.cons (.num 1) (.cons (.neg (.num 1)) (.cons (.num 9) (.cons (.bop .add (.bop .pow (.num 10) (.num 12)) (.num 1)) (.cons (.bop .pow (.num 10) (.num 29)) (.cons (.str "") (.cons (.str "0") (.cons (.tup .nil) (.cons (.tup (.cons (.num 0) .nil)) (.cons (.tup (.cons .non .nil)) (.cons (.lst .nil) (.cons (.lst (.cons (.num 0) .nil)) (.cons .dnew (.cons (.tup (.cons (.tup .nil) .nil)) .nil))))))))))))))))))) s M = .ok (.fl (oddL M.length)) (M ++ [.lst [], .lst [.int 0], .dct []]) := by
  have e1 : M ++ [O.lst [], .lst [.int 0], .dct []] = (M ++ [O.lst []] ++ [O.lst [.int 0]]) ++ [.dct []] := by simp
  have l1 : (M ++ [O.lst []]).length = M.length + 1 := by simp
  have l2 : (M ++ [O.lst []] ++ [O.lst [.int 0]]).length = M.length + 2 := by simp
  rw [e1]
  unfold oddL
  refine xL (xC xO (xC xB (xC xB (xC xN (xC xN (xC (xNg xN) (xC xN (xC (xOp (xOp xN xN pow12) xN rfl) (xC (xOp xN xN pow29) (xC xS (xC xS (xC (xT xZ) (xC (xT (xC xN xZ)) (xC (xT (xC xO xZ)) (xCF (xL xZ) (xCF' l1 (xL (xC xN xZ)) (xCN' l2 (xC (xT (xC (xT xZ) xZ)) xZ))))))))))))))))))
theorem gd_pure {c : Nat} {X : Mem} : ∀ d ∈ oddA ++ [.tup [.tup []]], Gd c X 1 3 20 d := by
  intro d hd
  simp only [oddA, List.cons_append, List.nil_append, List.mem_cons, List.not_mem_nil, or_false] at hd
  rcases hd with rfl | rfl | rfl | rfl | rfl | rfl | rfl | rfl | rfl | rfl | rfl | rfl | rfl | rfl | rfl
  · exact .non
  · exact .bl _
  · exact .bl _
  · exact .int (by decide)
  · exact .int (by decide)
  · exact .int (by decide)
  · exact .int (by decide)
  · exact .int (by decide)
  · exact .int (by decide)
  · exact .str (by decide) (by decide)
  · exact .str (by decide) (by decide)
  · exact GdL.tup .nil
  · exact GdL.tup (GdL.cons (b := 0) (b' := 0) (.int (by decide)) .nil (by decide))
  · exact GdL.tup (GdL.cons (b := 0) (b' := 0) .non .nil (by decide))
  · exact GdL.tup (GdL.cons (b := 0) (b' := 0) (GdL.tup (n := 1) .nil) .nil (by decide))
end
def IsOdd (C : Cl) (f : Nat) : Prop := ∀ {B : Nat} {Z X M : Mem}, B < 2 ^ 60 → Dk B (Z ++ X) M → Ok (C.call f [.ref 3] M) fun w M' => Out Z X (B + 1) 1 3 20 w M'
theorem odd_ok {C : Cl} {nx : Nat} (hn : Nx C nx) {B : Nat} {Z X M : Mem} (hB : B < 2 ^ 60) (h : Dk B (Z ++ X) M) : Ok (runB C ⟨1, 2, oddB nx⟩ [.ref 3] M) fun w M' => Out Z X (B + 1) 1 3 20 w M' := by
  refine runB_ok rfl ?_
  show Ok (evSs C (oddB nx) [some (.ref 3), none] M) _
  unfold oddB
  refine yL odd_list ?_
  simp only [List.set]
  have hl := len_dk h
  have e1 : (M ++ [O.lst [], .lst [.int 0], .dct []]).length = 4 + Z.length + (X.length + 3) := by simp [hl]; omega
  rw [e1]
  have eM : M ++ [O.lst [], .lst [.int 0], .dct []] ++ [O.lst (oddL M.length)] = M ++ [O.lst [], .lst [.int 0], .dct [], O.lst (oddL M.length)] := by simp
  rw [eM, hl]
  have h1 : Dk B (Z ++ (X ++ [O.lst [], .lst [.int 0], .dct [], O.lst (oddL (4 + Z.length + X.length))])) (M ++ [O.lst [], .lst [.int 0], .dct [], O.lst (oddL (4 + Z.length + X.length))]) := by
    obtain ⟨g0, rs, ps, c, h2, h3, h4⟩ := h
    exact ⟨g0, rs, ps, c, h2, h3, by rw [h4]; simp⟩
  refine Ok.cons (Ok.rtn ?_)
  rw [evE, evE]
  simp only [List.getElem?_cons_zero, List.getElem?_cons_succ, rbind_ok]
  refine Ok.bind (R := fun w M1 => Ok (leave M w M1) fun w M' => Out Z X (B + 1) 1 3 20 w M') (P := fun w M' => ∃ v : Int, w = .v (.int v) ∧ 0 ≤ v ∧ v < 18 ∧ Dk (B + 1) (Z ++ (X ++ [O.lst [], .lst [.int 0], .dct [], O.lst (oddL (4 + Z.length + X.length))])) M') ?_ ?_
  · refine Ok.call ?_
    simp only [evEs, evE, List.getElem?_cons_zero, rbind_ok, Res.put, put]
    exact .ret (hn (by decide) (by decide) hB h1)
  · rintro w M2 ⟨v, rfl, v0, v1, h2⟩
    obtain ⟨k, rfl⟩ : ∃ k : Nat, v = k := ⟨v.toNat, by omega⟩
    have hk : k < 18 := by omega
    have g3 : M2[4 + Z.length + (X.length + 3)]? = some (.lst (oddL (4 + Z.length + X.length))) := by
      rw [Nat.add_assoc, h2.get, List.getElem?_append_right (by omega), List.getElem?_append_right (by omega), show Z.length + (X.length + 3) - Z.length - X.length = 3 by omega]; rfl
    have hlen : (oddL (4 + Z.length + X.length)).length = 18 := rfl
    have hd : (oddL (4 + Z.length + X.length))[k]? = some ((oddL (4 + Z.length + X.length))[k]'(by omega)) := List.getElem?_eq_getElem _
    generalize hdd : (oddL (4 + Z.length + X.length))[k]'(by omega) = d at hd
    rw [ixM' g3 hd]
    refine .ret ?_
    have hm : d ∈ oddL (4 + Z.length + X.length) := List.mem_of_getElem? hd
    have gA := @gd_pure (4 + Z.length) X
    unfold oddL at hm
    rcases List.mem_append.mp hm with hm | hm
    · exact leave_out h h2 (.inl (gA d (List.mem_append_left _ hm)))
    · simp only [List.mem_cons, List.not_mem_nil, or_false] at hm
      have hp := pre_dk h h2
      have nb : ∀ j, W.bel M.length (.v (.ref (4 + Z.length + X.length + j))) = false := fun j => by
        rw [W.bel, D.bel, hl]; exact decide_eq_false (by omega)
      have tk : Dk (B + 1) (Z ++ X) (M2.take M.length) := dk_take h h2
      rcases hm with rfl | rfl | rfl | rfl
      · have g0 : M2[4 + Z.length + X.length]? = some (.lst []) := by
          rw [Nat.add_assoc, h2.get, List.getElem?_append_right (by omega), List.getElem?_append_right (by omega), show Z.length + X.length - Z.length - X.length = 0 by omega]; rfl
        unfold leave
        rw [if_pos hp, if_neg (by have z := nb 0; rw [Nat.add_zero] at z; rw [z]; decide)]
        simp only [g0]
        rw [if_pos (by rfl)]
        exact .ret (.inr (.inl ⟨tk, [], rfl, by decide, by decide, .nil⟩))
      · have g0 : M2[4 + Z.length + X.length + 1]? = some (.lst [.int 0]) := by
          rw [Nat.add_assoc, Nat.add_assoc, h2.get, List.getElem?_append_right (by omega), List.getElem?_append_right (by omega), show Z.length + (X.length + 1) - Z.length - X.length = 1 by omega]; rfl
        unfold leave
        rw [if_pos hp, if_neg (by rw [nb 1]; decide)]
        simp only [g0]
        rw [if_pos (by rfl)]
        exact .ret (.inr (.inl ⟨tk, [.int 0], rfl, by decide, by decide, GdL.cons (b := 0) (b' := 0) (.int (by decide)) .nil (by decide)⟩))
      · have g0 : M2[4 + Z.length + X.length + 2]? = some (.dct []) := by
          rw [Nat.add_assoc, Nat.add_assoc, h2.get, List.getElem?_append_right (by omega), List.getElem?_append_right (by omega), show Z.length + (X.length + 2) - Z.length - X.length = 2 by omega]; rfl
        unfold leave
        rw [if_pos hp, if_neg (by rw [nb 2]; decide)]
        simp only [g0]
        refine .ret (.inr (.inr ⟨_, _, h2, rfl, ?_, by have z := nb 2; rw [W.bel, hl] at z; exact z, fun k e => by cases e; exact ⟨_, g0⟩⟩))
        refine ⟨.dict [], fun g hg => ?_, rfl, by decide, by decide, rfl⟩
        have e : (g ++ (X ++ [O.lst [], .lst [.int 0], .dct [], O.lst (oddL (4 + Z.length + X.length))]))[4 + Z.length + X.length + 2]? = some (.dct []) := by
          rw [List.getElem?_append_right (by omega), List.getElem?_append_right (by omega), show 4 + Z.length + X.length + 2 - g.length - X.length = 2 by omega]; rfl
        rw [D.pdR, refPd, e]
        rfl
      · exact leave_out h h2 (.inl (gA _ (List.mem_append_right _ (List.mem_cons_self ..))))
end Ev

/-! EvQ3: things bent. -/
namespace Ev
open PySem
def bentB (f_bent f_next f_odd : Nat) : Ss := (.cons (.ife (.or (.not (.isi (.var 1) .tuple)) (.or (.cmp .eq (.var 1) (.tup .nil)) (.or (.cmp .eq (.var 2) (.num 0)) (.cmp .eq (.call f_next (.cons (.var 0) (.cons (.num 6) .nil))) (.num 0)))))
  (.cons (.ret (.call f_odd (.cons (.var 0) .nil)))
  .nil)
  .nil)
  (.cons (.asg (.nm 3) (.call f_next (.cons (.var 0) (.cons (.len (.var 1)) .nil))))
  (.cons (.asg (.nm 4) (.call f_next (.cons (.var 0) (.cons (.num 8) .nil))))
  (.cons (.ife (.cmp .eq (.var 4) (.num 0))
  (.cons (.ret (.bop .add (.sl (.var 1) .none (.some (.var 3))) (.sl (.var 1) (.some (.bop .add (.var 3) (.num 1))) .none)))
  .nil)
  .nil)
  (.cons (.ife (.cmp .eq (.var 4) (.num 1))
  (.cons (.ret (.bop .add (.bop .add (.sl (.var 1) .none (.some (.var 3))) (.tup (.cons (.ix (.var 1) (.var 3)) .nil))) (.sl (.var 1) (.some (.var 3)) .none)))
  .nil)
  .nil)
  (.cons (.ife (.cmp .eq (.var 4) (.num 2))
  (.cons (.ret (.bi .list (.val (.var 1))))
  .nil)
  .nil)
  (.cons (.ife (.cmp .eq (.var 4) (.num 3))
  (.cons (.ret (.rev (.var 1)))
  .nil)
  .nil)
  (.cons (.ret (.bop .add (.bop .add (.sl (.var 1) .none (.some (.var 3))) (.tup (.cons (.call f_bent (.cons (.var 0) (.cons (.ix (.var 1) (.var 3)) (.cons (.bop .sub (.var 2) (.num 1)) .nil)))) .nil))) (.sl (.var 1) (.some (.bop .add (.var 3) (.num 1))) .none)))
  .nil))))))))
def IsBent (C : Cl) (f k : Nat) : Prop := ∀ {B r n b : Nat} {Z X M : Mem} {d : D}, B + 10 * (k + 1) < 2 ^ 60 → Dk B (Z ++ X) M → Gd (4 + Z.length) X r n b d → r ≤ 3 → b ≤ 100000 → Ok (C.call f [.ref 3, d, .int (k : Nat)] M) fun w M' => Out Z X (B + 10 * (k + 1)) (r + 1) (n + 3) (2 * b + 100) w M'
theorem Gd.tyd {B r n b : Nat} {Z X M : Mem} {d : D} (h : Gd (4 + Z.length) X r n b d) (hd : Dk B (Z ++ X) M) : Tyd M d := by
  obtain ⟨p, h1, _⟩ := h
  obtain ⟨g0, rs, ps, c, _, _, rfl⟩ := hd
  have z := h1 (dk (.lst (g0.map .int)) rs ps c ++ Z) (by simp [dk]; omega)
  rw [List.append_assoc] at z
  cases d with
  | ref k =>
    rw [D.pdR] at z
    cases r with
    | zero => cases z
    | succ r =>
      rw [refPd] at z
      show ∃ o, _
      cases hn : (dk (.lst (g0.map .int)) rs ps c ++ (Z ++ X))[k]? with
      | none => rw [hn] at z; cases z
      | some o =>
        refine ⟨o, rfl, fun c l e => ?_⟩
        rw [hn, e] at z; cases z
  | _ => trivial
section
variable {C : Cl} {s : Env} {M M1 M2 : Mem}
theorem pdEq_nilT {l : List D} {r : Bool} (e : pdEq (pdD M (.tup l)) (pdD M (.tup [])) = some r) : r = l.isEmpty := by
  have e2 : pdD M (.tup []) = some (.tuple []) := rfl
  have e1 : pdD M (.tup l) = match D.pdRs (refPd M 4) l with | some ds => some (.tuple ds) | none => none := by rw [pdD, D.pdR] <;> rfl
  rw [e1, e2] at e
  cases q : D.pdRs (refPd M 4) l with
  | none => rw [q] at e; cases e
  | some ps =>
    rw [q] at e
    simp only [pdEq] at e
    split at e
    · cases e
      cases l with
      | nil => cases q; rfl
      | cons d l =>
        rw [D.pdRs] at q
        split at q
        · cases q; rfl
        · cases q
    · cases e
theorem eq_nilT {l : List D} : cmpW .eq M (.v (.tup l)) (.v (.tup [])) = some l.isEmpty := by
  simp only [cmpW, eqW, scalEq]
  cases e : pdEq (pdD M (.tup l)) (pdD M (.tup [])) with
  | none => rfl
  | some r => simp only; rw [pdEq_nilT e]
theorem addT' {l r : List D} (h : l.length + r.length ≤ 16777216) : opW .add M (.v (.tup l)) (.v (.tup r)) = some (.v (.tup (l ++ r))) := if_pos h
theorem Ok.orF {a b : E} {P : W → Mem → Prop} (h : evE C a s M = .ok (.v (.bl false)) M1) (k : Ok (evE C b s M1) fun w M' => ∃ t, w = .v (.bl t) ∧ P w M') : Ok (evE C (.or a b) s M) P := by
  rw [evE, h, rbind_ok]
  show Ok ((evE C b s M1).bind fun y M3 => Res.opt ((toB y).map fun i => .v (.bl i)) M3) P
  refine k.bind fun w M' ⟨t, e, p⟩ => ?_
  subst e
  exact .ret p
theorem bListT {e : E} {l : List D} (h : evE C e s M = .ok (.v (.tup l)) M) : evE C (.bi .list (.val e)) s M = .ok (.fl l) M := by rw [evE, h]; rfl
theorem xRev {a : E} {l : List D} (h : evE C a s M = .ok (.v (.tup l)) M) : evE C (.rev a) s M = .ok (.v (.tup l.reverse)) M := by rw [evE, h]; rfl
theorem slT_to {l : List D} {i : Nat} (h : i ≤ l.length) : slW M (.v (.tup l)) none (some (i : Int)) = some (.v (.tup (l.take i))) := by
  show some (W.v (.tup (cut l none (some (i : Int))))) = _
  rw [cut_to h]
theorem slT_from {l : List D} {i : Nat} (h : i ≤ l.length) : slW M (.v (.tup l)) (some (i : Int)) none = some (.v (.tup (l.drop i))) := by
  show some (W.v (.tup (cut l (some (i : Int)) none))) = _
  rw [cut_from h]
theorem slT_from1 {l : List D} {i : Nat} (h : i + 1 ≤ l.length) : slW M (.v (.tup l)) (some ((i : Int) + 1)) none = some (.v (.tup (l.drop (i + 1)))) := by
  have z := slT_from (M := M) h
  rwa [show ((i + 1 : Nat) : Int) = (i : Int) + 1 by omega] at z
end
theorem Gd.untup' {c : Nat} {X : Mem} {r n b : Nat} {l : List D} (g : Gd c X r n b (.tup l)) : ∃ m, n = m + 1 ∧ GdL c X r m b l := by
  obtain ⟨p, h1, h2⟩ := g
  have key : ∀ g : Mem, g.length = c → ∃ ps, p = .tuple ps ∧ D.pdRs (refPd (g ++ X) r) l = some ps := fun g hg => by
    have z := h1 g hg
    rw [D.pdR] at z
    cases e : D.pdRs (refPd (g ++ X) r) l with
    | none => rw [e] at z; cases z
    | some ps => rw [e] at z; cases z; exact ⟨ps, rfl, rfl⟩
  obtain ⟨ps, e, _⟩ := key (List.replicate c (O.lst [])) List.length_replicate
  subst e
  have h3 := h2.dp
  rw [PyData.depth] at h3
  refine ⟨n - 1, by omega, ps, fun g hg => ?_, ⟨h2.untup.1.sh, by omega, h2.untup.1.bk, h2.untup.1.ls⟩⟩
  obtain ⟨_, e, e2⟩ := key g hg
  cases e; exact e2
theorem bels_mid {b : Nat} {d : D} (h : D.bel b d = false) : ∀ {l m : List D}, D.bels b (l ++ d :: m) = false
  | [], m => by rw [List.nil_append, D.bels, h]; rfl
  | x :: l, m => by rw [List.cons_append, D.bels, bels_mid h, Bool.and_false]
theorem bent_ok {C : Cl} {f nx od k : Nat} (hn : Nx C nx) (ho : IsOdd C od) (hb : ∀ j, k = j + 1 → IsBent C f j) {B r n b : Nat} {Z X M : Mem} {d : D} (hB : B + 10 * (k + 1) < 2 ^ 60) (h : Dk B (Z ++ X) M) (g : Gd (4 + Z.length) X r n b d) (hr : r ≤ 3) (hbb : b ≤ 100000) :
    Ok (runB C ⟨3, 5, bentB f nx od⟩ [.ref 3, d, .int (k : Nat)] M) fun w M' => Out Z X (B + 10 * (k + 1)) (r + 1) (n + 3) (2 * b + 100) w M' := by
  refine runB_ok rfl ?_
  show Ok (evSs C (bentB f nx od) [some (.ref 3), some d, some (.int (k : Nat)), none, none] M) _
  have tail_odd : ∀ (B' : Nat) (M' : Mem), B' ≤ B + 1 → Dk B' (Z ++ X) M' → Ok (evE C (.call od (.cons (.var 0) .nil)) [some (.ref 3), some d, some (.int (k : Nat)), none, none] M') fun w M1 => Ok (leave M w M1) fun w M' => Out Z X (B + 10 * (k + 1)) (r + 1) (n + 3) (2 * b + 100) w M' := fun B' M' hB' h' => by
    refine Ok.call ?_
    simp only [evEs, evE, List.getElem?_cons_zero, rbind_ok, Res.put, put]
    refine .ret ((ho (by omega) h').mono fun w M1 q => ?_)
    exact leave_any h (q.mono (by omega) (by omega) (by omega) (by omega))
  have ty := tyTup (g.tyd h)
  unfold bentB
  by_cases ht : ∃ l, d = .tup l
  case neg =>
    have ty2 : isTy M (.v d) .tuple = some false := by
      rw [ty]
      cases d with
      | tup l => exact absurd ⟨l, rfl⟩ ht
      | _ => rfl
    exact yT (xOT (xNT (xTy (xV rfl) ty2))) (Ok.cons (Ok.rtn (tail_odd B M (by omega) h)))
  obtain ⟨l, rfl⟩ := ht
  obtain ⟨m, rfl, gl⟩ := g.untup'
  have ll := gl.len
  have ty2 : isTy M (.v (.tup l)) .tuple = some true := ty
  cases l with
  | nil => exact yT (xOF (xNF (xTy (xV rfl) ty2)) (xOT (xCm (xV rfl) (xT xZ) eq_nilT))) (Ok.cons (Ok.rtn (tail_odd B M (by omega) h)))
  | cons x l =>
    by_cases hk : k = 0
    · subst hk
      exact yT (xOF (xNF (xTy (xV rfl) ty2)) (xOF (xCm (xV rfl) (xT xZ) eq_nilT) (xOT (xCm (xV rfl) xN rfl)))) (Ok.cons (Ok.rtn (tail_odd B M (by omega) h)))
    obtain ⟨j, rfl⟩ : ∃ j, k = j + 1 := ⟨k - 1, by omega⟩
    have hb : IsBent C f j := hb j rfl
    generalize hL : x :: l = L at *
    have hLl : 1 ≤ L.length := by rw [← hL, List.length_cons]; omega
    have hLe : L.isEmpty = false := by rw [← hL]; rfl
    refine Ok.cons (Ok.ife ?_)
    have e1 : evE C (.not (.isi (.var 1) .tuple)) [some (.ref 3), some (.tup L), some (.int (j + 1 : Nat)), none, none] M = .ok (.v (.bl false)) M := xNF (xTy (xV rfl) ty2)
    have e2 : evE C (.cmp .eq (.var 1) (.tup .nil)) [some (.ref 3), some (.tup L), some (.int (j + 1 : Nat)), none, none] M = .ok (.v (.bl false)) M := by
      have z := xCm (C := C) (s := [some (.ref 3), some (.tup L), some (.int (j + 1 : Nat)), none, none]) (M := M) (xV (i := 1) rfl) (xT xZ) eq_nilT
      rw [hLe] at z; exact z
    have e3 : evE C (.cmp .eq (.var 2) (.num 0)) [some (.ref 3), some (.tup L), some (.int (j + 1 : Nat)), none, none] M = .ok (.v (.bl false)) M := by
      have z := xCm (C := C) (s := [some (.ref 3), some (.tup L), some (.int (j + 1 : Nat)), none, none]) (M := M) (xV (i := 2) rfl) (xN (i := 0)) (cmpEqI _ _)
      rw [decide_eq_false (by omega)] at z; exact z
    refine Ok.mono (P := fun w M1 => ∃ v : Int, w = .v (.bl (decide (v = 0))) ∧ Dk (B + 1) (Z ++ X) M1) ?_ ?_
    · refine Ok.orF e1 ((Ok.orF (P := fun w M1 => ∃ v : Int, w = .v (.bl (decide (v = 0))) ∧ Dk (B + 1) (Z ++ X) M1) e2 ((Ok.orF (P := fun w M1 => ∃ v : Int, w = .v (.bl (decide (v = 0))) ∧ Dk (B + 1) (Z ++ X) M1) e3 ?_).mono fun w M1 q => ?_)).mono fun w M1 q => ?_)
      · rw [evE]
        refine Ok.bind (P := fun w M1 => ∃ v : Int, w = .v (.int v) ∧ Dk (B + 1) (Z ++ X) M1) ?_ ?_
        · refine Ok.call ?_
          simp only [evEs, evE, List.getElem?_cons_zero, rbind_ok, Res.put, put]
          exact .ret ((hn (by decide) (by decide) (by omega) h).mono fun w M1 ⟨v, e, _, _, k1⟩ => ⟨v, e, k1⟩)
        · rintro w M1 ⟨v, rfl, k1⟩
          rw [evE, rbind_ok]
          exact .ret ⟨_, rfl, v, rfl, k1⟩
      · obtain ⟨v, e, k1⟩ := q
        exact ⟨_, e, v, e, k1⟩
      · obtain ⟨v, e, k1⟩ := q
        exact ⟨_, e, v, e, k1⟩
    · rintro w M1 ⟨v, rfl, k1⟩
      refine ⟨decide (v = 0), rfl, ?_⟩
      by_cases hv : v = 0
      · rw [if_pos (by simpa using hv)]
        exact Ok.cons (Ok.rtn (tail_odd (B + 1) M1 (by omega) k1))
      rw [if_neg (by simpa using hv)]
      refine Ok.nil ?_
      -- at
      refine Ok.cons (Ok.asg (Ok.call ?_))
      simp only [evEs, evE, List.getElem?_cons_zero, List.getElem?_cons_succ, rbind_ok, Res.put, put, lenT, Option.map_some, ropt_some]
      refine .ret ((hn (many := L.length) (by omega) (by omega) (by omega) k1).mono fun w M2 ⟨v, e, v0, v1, k2⟩ => ?_)
      subst e
      obtain ⟨a, rfl⟩ : ∃ a : Nat, v = a := ⟨v.toNat, by omega⟩
      have ha : a < L.length := by omega
      simp only [List.set]
      refine Ok.cons (Ok.asg (Ok.call ?_))
      simp only [evEs, evE, List.getElem?_cons_zero, List.getElem?_cons_succ, rbind_ok, Res.put, put]
      refine .ret ((hn (by decide) (by decide) (by omega) k2).mono fun w M3 ⟨q, e, q0, q1, k3⟩ => ?_)
      subst e
      simp only [List.set]
      have eL : L = L.take a ++ L[a] :: L.drop (a + 1) := by
        rw [← List.drop_eq_getElem_cons ha, List.take_append_drop]
      obtain ⟨b1, b2, g1, g2, hb12⟩ := GdL.unapp (eL ▸ gl)
      obtain ⟨b3, b4, g3, g4, hb34⟩ := GdL.split g2
      have go := gl
      have eat : L[a]? = some L[a] := List.getElem?_eq_getElem ha
      have fin : ∀ {M4 : Mem} {L' : List D} {b' : Nat}, Dk (B + 3) (Z ++ X) M4 → GdL (4 + Z.length) X r m b' L' → b' ≤ 2 * b + 100 → Ok (leave M (.v (.tup L')) M4) fun w M' => Out Z X (B + 10 * (j + 1 + 1)) (r + 1) (m + 1 + 3) (2 * b + 100) w M' := fun k4 g' hb' =>
        (leave_out h (Y := []) (by rw [List.append_nil]; exact k4) (.inl (GdL.tup g'))).mono fun w M5 o => o.mono (by omega) (by omega) (by omega) hb'
      have c0 := xCm (C := C) (s := [some (.ref 3), some (.tup L), some (.int (j + 1 : Nat)), some (.int (a : Nat)), some (.int q)]) (M := M3) (xV (i := 4) rfl) (xN (i := 0)) (cmpEqI _ _)
      have c1 := xCm (C := C) (s := [some (.ref 3), some (.tup L), some (.int (j + 1 : Nat)), some (.int (a : Nat)), some (.int q)]) (M := M3) (xV (i := 4) rfl) (xN (i := 1)) (cmpEqI _ _)
      have c2 := xCm (C := C) (s := [some (.ref 3), some (.tup L), some (.int (j + 1 : Nat)), some (.int (a : Nat)), some (.int q)]) (M := M3) (xV (i := 4) rfl) (xN (i := 2)) (cmpEqI _ _)
      have c3 := xCm (C := C) (s := [some (.ref 3), some (.tup L), some (.int (j + 1 : Nat)), some (.int (a : Nat)), some (.int q)]) (M := M3) (xV (i := 4) rfl) (xN (i := 3)) (cmpEqI _ _)
      have lt : (L.take a).length + (L.drop (a + 1)).length ≤ 16777216 := by rw [List.length_take, List.length_drop]; omega
      by_cases h0 : q = 0
      · rw [decide_eq_true h0] at c0
        refine yT c0 (yR (xOp (xSl (xV rfl) xON (xOS (xV rfl)) (slT_to (Nat.le_of_lt ha))) (xSl (xV rfl) (xOS (xOp (xV rfl) xN rfl)) xON (slT_from1 ha)) (addT' lt)) ?_)
        exact fin k3 (GdL.app g1 g4 (Nat.le_refl _)) (by omega)
      rw [decide_eq_false h0] at c0
      refine yF c0 ?_
      by_cases h1 : q = 1
      · rw [decide_eq_true h1] at c1
        refine yT c1 (yR (xOp (xOp (xSl (xV rfl) xON (xOS (xV rfl)) (slT_to (Nat.le_of_lt ha))) (xT (xC (xIx (xV rfl) (xV rfl) (ixK' _ eat)) xZ)) (addT' (by rw [List.length_take, List.length_singleton]; omega))) (xSl (xV rfl) (xOS (xV rfl)) xON (slT_from (Nat.le_of_lt ha))) (addT' (by rw [List.length_append, List.length_take, List.length_drop, List.length_singleton]; omega))) ?_)
        refine fin k3 (GdL.app (GdL.app g1 (GdL.cons (b' := 0) g3 .nil (Nat.le_refl _)) (Nat.le_refl _)) (b := b1 + (b3 + 1 + 0)) (b' := b2) (e := b1 + (b3 + 1 + 0) + b2) ?_ (Nat.le_refl _)) (by omega)
        rw [List.drop_eq_getElem_cons ha]; exact g2
      rw [decide_eq_false h1] at c1
      refine yF c1 ?_
      by_cases h2 : q = 2
      · rw [decide_eq_true h2] at c2
        refine yT c2 (yR (bListT (xV rfl)) ?_)
        exact (leave_outL h (Y := []) (by rw [List.append_nil]; exact k3) gl).mono fun w M5 o => o.mono (by omega) (by omega) (by omega) (by omega)
      rw [decide_eq_false h2] at c2
      refine yF c2 ?_
      by_cases h3 : q = 3
      · rw [decide_eq_true h3] at c3
        refine yT c3 (yR (xRev (xV rfl)) ?_)
        exact fin k3 gl.rev (by omega)
      rw [decide_eq_false h3] at c3
      refine yF c3 ?_
      refine Ok.cons (Ok.rtn ?_)
      have eS : evE C (.sl (.var 1) .none (.some (.var 3))) [some (.ref 3), some (.tup L), some (.int (j + 1 : Nat)), some (.int (a : Nat)), some (.int q)] M3 = .ok (.v (.tup (L.take a))) M3 := xSl (xV rfl) xON (xOS (xV rfl)) (slT_to (Nat.le_of_lt ha))
      have eT : ∀ M4, evE C (.sl (.var 1) (.some (.bop .add (.var 3) (.num 1))) .none) [some (.ref 3), some (.tup L), some (.int (j + 1 : Nat)), some (.int (a : Nat)), some (.int q)] M4 = .ok (.v (.tup (L.drop (a + 1)))) M4 := fun M4 => xSl (xV rfl) (xOS (xOp (xV rfl) xN rfl)) xON (slT_from1 ha)
      have eA : evEs C (.cons (.var 0) (.cons (.ix (.var 1) (.var 3)) (.cons (.bop .sub (.var 2) (.num 1)) .nil))) [some (.ref 3), some (.tup L), some (.int (j + 1 : Nat)), some (.int (a : Nat)), some (.int q)] M3 = .ok [.ref 3, L[a], .int (j : Nat)] M3 := xC (xV rfl) (xC (xIx (xV rfl) (xV rfl) (ixK' _ eat)) (xC (xOp (xV rfl) xN (by rw [subI, show ((j + 1 : Nat) : Int) - 1 = (j : Nat) by omega])) xZ))
      rw [evE, evE, eS, rbind_ok]
      have hcall := hb (B := B + 3) (d := L[a]) (by omega) k3 g3 hr (by omega)
      refine Ok.bind (P := fun w M4 => ∃ Y d', Dk (B + 3 + 10 * (j + 1)) (Z ++ (X ++ Y)) M4 ∧ w = .v (.tup (L.take a ++ [d'])) ∧ Gd (4 + Z.length) (X ++ Y) (r + 1) (m + 3) (2 * b3 + 100) d' ∧ (Y = [] ∨ D.bel (4 + Z.length + X.length) d' = false)) ?_ ?_
      · refine Ok.bind (P := fun w M4 => ∃ Y d', Dk (B + 3 + 10 * (j + 1)) (Z ++ (X ++ Y)) M4 ∧ w = .v (.tup [d']) ∧ Gd (4 + Z.length) (X ++ Y) (r + 1) (m + 3) (2 * b3 + 100) d' ∧ (Y = [] ∨ D.bel (4 + Z.length + X.length) d' = false)) ?_ ?_
        · rw [evE, evEs, evE, eA, rbind_ok]
          obtain ⟨w, M4, ew, hw⟩ := hcall
          rw [ew]
          obtain ⟨Y, p1, p2, p3⟩ := hw.put
          simp only [Res.put, rbind_ok]
          rw [evEs]
          exact .ret ⟨Y, _, p1, rfl, p2, p3⟩
        · rintro w M4 ⟨Y, d', p1, rfl, p2, p3⟩
          rw [addT' (by rw [List.length_take, List.length_singleton]; omega)]
          exact .ret ⟨Y, d', p1, rfl, p2, p3⟩
      · rintro w M4 ⟨Y, d', p1, rfl, p2, p3⟩
        rw [eT, rbind_ok, addT' (by rw [List.length_append, List.length_take, List.length_drop, List.length_singleton]; omega)]
        refine .ret ?_
        have gr : Gd (4 + Z.length) (X ++ Y) (r + 1) (m + 3 + 1) (2 * b + 100) (.tup (L.take a ++ [d'] ++ L.drop (a + 1))) := by
          refine GdL.tup ?_
          have t1 : GdL (4 + Z.length) (X ++ Y) (r + 1) (m + 3) b1 (L.take a) := g1.up (by omega) (by omega) (Nat.le_refl _)
          have t2 : GdL (4 + Z.length) (X ++ Y) (r + 1) (m + 3) b4 (L.drop (a + 1)) := g4.up (by omega) (by omega) (Nat.le_refl _)
          exact GdL.app (GdL.app t1 (GdL.cons (b' := 0) p2 .nil (Nat.le_refl _)) (Nat.le_refl _)) t2 (by omega)
        refine (leave_out h p1 ?_).mono fun w M5 o => o.mono (by omega) (Nat.le_refl _) (Nat.le_refl _) (Nat.le_refl _)
        rcases p3 with rfl | p3
        · rw [List.append_nil] at gr; exact .inl gr
        · refine .inr ⟨gr, ?_, fun k e => nomatch e⟩
          rw [D.bel, List.append_assoc]
          exact bels_mid p3
end Ev

/-! EvQ4: faults of what is handed in as a stream. -/
namespace Ev
open PySem
/-- so many numbers -/
def rowI (d : D) (n : Nat) : Option (List Int) := match d with
  | .tup l => if l.length = n then intsOf l else none
  | _ => none
def faultX (w : Web) (d : D) : D := match rowI d w.ws.length with
  | some bs => faultD w bs
  | none => .tup [.str "form"]
theorem intsOf_eq : ∀ {l : List D} {bs : List Int}, intsOf l = some bs → l = bs.map .int
  | [], _, h => by cases h; rfl
  | .int i :: l, _, h => by
    simp only [intsOf, Option.map_eq_some_iff] at h
    obtain ⟨bs, h, rfl⟩ := h
    rw [List.map_cons, ← intsOf_eq h]
  | .non :: _, _, h => by cases h
  | .bl _ :: _, _, h => by cases h
  | .str _ :: _, _, h => by cases h
  | .tup _ :: _, _, h => by cases h
  | .ref _ :: _, _, h => by cases h
  | .scr _ :: _, _, h => by cases h
def intB : D → Bool
  | .int _ => true
  | _ => false
theorem intsOf_none : ∀ {l : List D}, intsOf l = none → ∃ x ∈ l, intB x = false
  | [], h => by cases h
  | .int i :: l, h => by
    simp only [intsOf, Option.map_eq_none_iff] at h
    obtain ⟨x, hx, e⟩ := intsOf_none h
    exact ⟨x, List.mem_cons_of_mem _ hx, e⟩
  | .non :: _, _ => ⟨_, List.mem_cons_self .., rfl⟩
  | .bl _ :: _, _ => ⟨_, List.mem_cons_self .., rfl⟩
  | .str _ :: _, _ => ⟨_, List.mem_cons_self .., rfl⟩
  | .tup _ :: _, _ => ⟨_, List.mem_cons_self .., rfl⟩
  | .ref _ :: _, _ => ⟨_, List.mem_cons_self .., rfl⟩
  | .scr _ :: _, _ => ⟨_, List.mem_cons_self .., rfl⟩
theorem rowI_some {d : D} {n : Nat} {bs : List Int} (h : rowI d n = some bs) : d = .tup (bs.map .int) ∧ bs.length = n := by
  unfold rowI at h
  split at h
  · split at h
    · rename_i l hl
      have e := intsOf_eq h
      subst e
      exact ⟨rfl, by simpa using hl⟩
    · cases h
  · cases h
theorem rowI_ints {bs : List Int} {n : Nat} (h : bs.length = n) : rowI (.tup (bs.map .int)) n = some bs := by
  unfold rowI
  simp only [List.length_map, h, if_true]
  exact ints_of bs
/-- its things are known -/
def Tys (M : Mem) (d : D) : Prop := Tyd M d ∧ ∀ l, d = .tup l → ∀ x ∈ l, Tyd M x
theorem Gd.tys {B r n b : Nat} {Z X M : Mem} {d : D} (h : Gd (4 + Z.length) X r n b d) (hd : Dk B (Z ++ X) M) : Tys M d := ⟨h.tyd hd, fun l e x hx => by subst e; exact (h.untup.mem hx).tyd hd⟩
section
variable {C : Cl} {M : Mem} {w : Web} {hs rs f1 f2 f3 f4 : Nat} {d : D}
def IsFaultX (C : Cl) (f : Nat) : Prop := ∀ {hs rs : Nat} {w : Web} {d : D} {M : Mem} (_ : w.Ok hs rs) (_ : hs ≤ 100) (_ : rs ≤ 100) (_ : Tys M d), C.call f [w.d, d] M = .ok (.v (faultX w d)) M
theorem faultX_ok (q1 : IsSums C f1) (q2 : IsNumber C f2) (q3 : IsRow C f3) (q4 : IsAmount C f4) (ok : w.Ok hs rs) (hh : hs ≤ 100) (hr : rs ≤ 100) (ht : Tys M d) :
    runB C ⟨2, 9, streamfaultB f1 f2 f3 f4⟩ [w.d, d] M = .ok (.v (faultX w d)) M := by
  cases hR : rowI d w.ws.length with
  | some bs =>
    obtain ⟨rfl, hb⟩ := rowI_some hR
    unfold faultX
    rw [hR]
    exact fault_ok q1 q2 q3 q4 ok hh hr hb
  | none =>
    unfold faultX
    rw [hR]
    refine runB_pure rfl ?_ rfl
    show evSs C (streamfaultB f1 f2 f3 f4) [some w.d, some d, none, none, none, none, none, none, none] M = _
    unfold streamfaultB
    rw [cons_nx (asg_eq (xLn (xIx (xV rfl) xN (web0 w)) (by rw [lenT, List.length_map])))]
    simp only [List.set, put]
    have eC : evE C (.or (.not (.call f3 (.cons (.var 1) (.cons (.var 2) (.cons (.var 2) .nil))))) (.not (.bi .all (.val (.comp (.call f4 (.cons (.var 8) .nil)) (.nm 8) (.val (.var 1)) .none [8]))))) [some w.d, some d, some (.int (w.ws.length : Nat)), none, none, none, none, none, none] M = .ok (.v (.bl true)) M := by
      have e3 : C.call f3 [d, .int (w.ws.length : Nat), .int (w.ws.length : Nat)] M = _ := q3 ht.1
      by_cases hI : rowIn d (w.ws.length : Nat) (w.ws.length : Nat) = true
      · rw [hI] at e3
        refine xOF (M1 := M) (xNF (xF (xC (xV rfl) (xC (xV rfl) (xC (xV rfl) xZ))) e3)) ?_
        cases d with
        | tup l =>
          have hl : l.length = w.ws.length := by
            simp only [rowIn, Bool.and_eq_true, decide_eq_true_eq] at hI
            omega
          unfold rowI at hR
          simp only [hl, if_true] at hR
          obtain ⟨x, hx, ex⟩ := intsOf_none hR
          have z := compM (C := C) (tg := .nm 8) (it := .val (.var 1)) (el := .call f4 (.cons (.var 8) .nil)) (ws := [8]) (s := [some w.d, some (.tup l), some (.int (w.ws.length : Nat)), none, none, none, none, none, none]) (M := M) (l := l) (a := id) (fun x => .bl (amtD x)) (by rw [List.map_id]; exact itT (xV rfl)) (srcNil M) fun x hx => ⟨_, rfl, xF (xC (xV rfl) xZ) (q4 (ht.2 l rfl x hx))⟩
          have e2 : l.map (fun x => D.bl (amtD x)) = (l.map amtD).map .bl := by rw [List.map_map]; rfl
          rw [e2] at z
          have z2 := xNt (bAll z)
          have e4 : ((l.map amtD).all id) = false := by
            rw [List.all_eq_false]
            refine ⟨amtD x, List.mem_map.mpr ⟨x, hx, rfl⟩, ?_⟩
            cases x <;> first | (cases ex; done) | simp [amtD]
          rw [e4] at z2
          exact z2
        | _ => cases hI
      · rw [Bool.not_eq_true] at hI
        rw [hI] at e3
        exact xOT (xNT (xF (xC (xV rfl) (xC (xV rfl) (xC (xV rfl) xZ))) e3))
    exact cons_rt ((ife_t eC).trans (cons_rt (ret_eq (xT (xC xS xZ)))))
end
/-! ### by the law's own look -/
def wholeB : Ss := (.cons (.ret (.and (.isi (.var 0) .int) (.not (.isi (.var 0) .bool))))
  .nil)
def l_stream_faultB (f_sum f_whole : Nat) : Ss := (.cons (.ife (.or (.not (.isi (.var 1) .tuple)) (.cmp .ne (.len (.var 1)) (.len (.ix (.var 0) (.num 0)))))
  (.cons (.ret (.tup (.cons (.str "form") .nil)))
  .nil)
  .nil)
  (.cons (.ife (.cmp .ne (.comp (.num 1) (.nm 4) (.val (.var 1)) (.some (.or (.not (.call f_whole (.cons (.var 4) .nil))) (.cmp .lt (.var 4) (.num 0)))) [4]) (.lst .nil))
  (.cons (.ret (.tup (.cons (.str "form") .nil)))
  .nil)
  .nil)
  (.cons (.for_ (.nm 2) (.rng1 (.len (.var 1)))
  (.cons (.ife (.cmp .gt (.ix (.var 1) (.var 2)) (.ix (.ix (.ix (.var 0) (.num 0)) (.var 2)) (.num 2)))
  (.cons (.ret (.tup (.cons (.str "room") (.cons (.var 2) .nil))))
  .nil)
  .nil)
  .nil))
  (.cons (.for_ (.nm 3) (.rng1 (.len (.ix (.var 0) (.num 1))))
  (.cons (.ife (.cmp .ne (.call f_sum (.cons (.var 0) (.cons (.var 1) (.cons (.num 0) (.cons (.var 3) .nil))))) (.call f_sum (.cons (.var 0) (.cons (.var 1) (.cons (.num 1) (.cons (.var 3) .nil))))))
  (.cons (.ret (.tup (.cons (.str "house") (.cons (.var 3) .nil))))
  .nil)
  .nil)
  .nil))
  (.cons (.ret .non)
  .nil)))))
def IsWhole (C : Cl) (f : Nat) : Prop := ∀ {d : D} {M : Mem} (_ : Tyd M d), C.call f [d] M = .ok (.v (.bl (intB d))) M
section
variable {C : Cl} {M : Mem} {d : D}
theorem whole_ok (h : Tyd M d) : runB C ⟨1, 1, wholeB⟩ [d] M = .ok (.v (.bl (intB d))) M := by
  refine runB_pure rfl (cons_rt (ret_eq ?_)) rfl
  show evE C _ [some d] M = _
  cases d with
  | int x => exact xAT (xTy (xV rfl) (tyInt h)) (xNT (xTy (xV rfl) rfl))
  | bl b => exact xAT (xTy (xV rfl) (tyInt h)) (xNF (xTy (xV rfl) rfl))
  | non => exact xAF (xTy (xV rfl) (tyInt h))
  | str x => exact xAF (xTy (xV rfl) (tyInt h))
  | tup l => exact xAF (xTy (xV rfl) (tyInt h))
  | ref n => exact xAF (xTy (xV rfl) (tyInt h))
  | scr l => exact xAF (xTy (xV rfl) (tyInt h))
def negB : D → Bool
  | .int i => decide (i < 0)
  | _ => false
/-- a pure comprehension of ones is empty just where nothing is kept -/
theorem ones_ne {α : Type} {el : E} {tg : Tg} {it : I} {ws : List Nat} {s : Env} {l : List α} {a : α → D} {ss : List (Nat × O)} {c : Eo} (p : α → Bool) (hi : evI C it s M = .ok (l.map a, ss) M) (hs : SrcOk ss M)
    (h : ∀ x ∈ l, ∃ s1, asgT tg (a x) (wipeE s ws) = some s1 ∧ evT C c s1 M = .ok (p x) M ∧ (p x = true → evE C el s1 M = .ok (.v (.int 1)) M)) :
    evE C (.cmp .ne (.comp el tg it c ws) (.lst .nil)) s M = .ok (.v (.bl (l.any p))) M := by
  have z := compP (C := C) (el := el) (tg := tg) (ws := ws) (c := c) p (fun _ => .int 1) hi hs h
  refine xCm z (xL xZ) ?_
  have e : (l.filter p).map (fun _ => D.int 1) = ((l.filter p).map fun _ => (1 : Int)).map .int := by rw [List.map_map]; rfl
  rw [e]
  have z2 := cmpNeFI (M := M) ((l.filter p).map fun _ => (1 : Int)) []
  rw [List.map_nil] at z2
  rw [z2]
  congr 1
  cases hf : l.any p with
  | true =>
    obtain ⟨x, hx, hp⟩ := List.any_eq_true.mp hf
    have : (l.filter p).map (fun _ => (1 : Int)) ≠ [] := by
      intro q
      have : x ∈ l.filter p := List.mem_filter.mpr ⟨hx, hp⟩
      rw [List.map_eq_nil_iff.mp q] at this
      cases this
    rw [decide_eq_false this]; rfl
  | false =>
    have : l.filter p = [] := List.filter_eq_nil_iff.mpr fun x hx => by
      have := List.any_eq_false.mp hf x hx
      simpa using this
    rw [this]; rfl
theorem find_congr {p q : Nat → Bool} : ∀ {l : List Nat}, (∀ x ∈ l, p x = q x) → l.find? p = l.find? q
  | [], _ => rfl
  | a :: l, h => by
    rw [List.find?_cons, List.find?_cons, h a (List.mem_cons_self ..), find_congr fun x hx => h x (List.mem_cons_of_mem _ hx)]
theorem any_ints {l : List D} (h : (l.any fun x => !intB x || negB x) = false) : ∃ bs : List Int, l = bs.map .int ∧ (bs.all fun x => decide (0 ≤ x)) = true := by
  induction l with
  | nil => exact ⟨[], rfl, rfl⟩
  | cons x l ih =>
    rw [List.any_cons, Bool.or_eq_false_iff] at h
    obtain ⟨bs, e, h2⟩ := ih h.2
    cases x with
    | int i =>
      refine ⟨i :: bs, by rw [List.map_cons, e], ?_⟩
      rw [List.all_cons, h2, Bool.and_true, decide_eq_true_eq]
      simpa [intB, negB] using h.1
    | _ => simp [intB] at h
theorem any_neg {l : List D} {bs : List Int} (e : l = bs.map .int) (h : (l.any fun x => !intB x || negB x) = true) : (bs.all fun x => decide (0 ≤ x)) = false := by
  subst e
  obtain ⟨x, hx, hp⟩ := List.any_eq_true.mp h
  obtain ⟨i, hi, rfl⟩ := List.mem_map.mp hx
  rw [List.all_eq_false]
  refine ⟨i, hi, ?_⟩
  simp [intB, negB] at hp ⊢
  omega
theorem lfault_ok {w : Web} {hs rs f1 f2 : Nat} (q1 : IsSum C f1) (q2 : IsWhole C f2) (ok : w.Ok hs rs) (hh : hs ≤ 100) (hr : rs ≤ 100) (ht : Tys M d) :
    runB C ⟨2, 5, l_stream_faultB f1 f2⟩ [w.d, d] M = .ok (.v (faultX w d)) M := by
  have hm2 := ok.m2
  have hn2 := ok.n2
  have pure : (faultX w d).pure = true := by
    unfold faultX
    split
    · unfold faultD
      split
      · split
        · rfl
        · split <;> rfl
      · rfl
    · rfl
  have ty := tyTup ht.1
  have main : Ok (evSs C (l_stream_faultB f1 f2) [some w.d, some d, none, none, none] M) fun fl M' => fl = .rt (.v (faultX w d)) ∧ M' = M := by
    unfold l_stream_faultB
    by_cases htu : ∃ l, d = .tup l
    case neg =>
      have ty2 : isTy M (.v d) .tuple = some false := by
        rw [ty]
        cases d with
        | tup l => exact absurd ⟨l, rfl⟩ htu
        | _ => rfl
      have e : faultX w d = .tup [.str "form"] := by
        unfold faultX
        have : rowI d w.ws.length = none := by
          cases d with
          | tup l => exact absurd ⟨l, rfl⟩ htu
          | _ => rfl
        rw [this]
      refine yT (xOT (xNT (xTy (xV rfl) ty2))) (yR (xT (xC xS xZ)) ⟨by rw [e], rfl⟩)
    obtain ⟨l, rfl⟩ := htu
    have ty2 : isTy M (.v (.tup l)) .tuple = some true := ty
    have c1 := xOF (C := C) (s := [some w.d, some (.tup l), none, none, none]) (M := M) (xNF (xTy (xV (i := 1) rfl) ty2)) (xCm (xLn (xV (i := 1) rfl) (lenT l)) (xLn (xIx (xV (i := 0) rfl) xN (web0 w)) (by rw [lenT, List.length_map])) (cmpNeI _ _))
    by_cases hl : l.length = w.ws.length
    case neg =>
      rw [decide_eq_false (by omega)] at c1
      have e : faultX w (.tup l) = .tup [.str "form"] := by
        unfold faultX rowI
        simp only [hl, if_false]
      exact yT c1 (yR (xT (xC xS xZ)) ⟨by rw [e], rfl⟩)
    rw [decide_eq_true (by omega)] at c1
    refine yF c1 ?_
    have c2 := ones_ne (C := C) (M := M) (el := .num 1) (tg := .nm 4) (it := .val (.var 1)) (ws := [4]) (s := [some w.d, some (.tup l), none, none, none]) (l := l) (a := id) (c := .some (.or (.not (.call f2 (.cons (.var 4) .nil))) (.cmp .lt (.var 4) (.num 0)))) (fun x => !intB x || negB x) (by rw [List.map_id]; exact itT (xV rfl)) (srcNil M) fun x hx => by
      refine ⟨_, rfl, xTS ?_, fun _ => xN⟩
      have e := q2 (ht.2 l rfl x hx)
      cases x with
      | int i => exact xOF (xNF (xF (xC (xV rfl) xZ) e)) (xCm (xV rfl) xN rfl)
      | _ => exact xOT (xNT (xF (xC (xV rfl) xZ) e))
    cases hb : l.any fun x => !intB x || negB x with
    | true =>
      rw [hb] at c2
      have e : faultX w (.tup l) = .tup [.str "form"] := by
        unfold faultX
        cases hR : rowI (.tup l) w.ws.length with
        | none => rfl
        | some bs =>
          obtain ⟨e1, _⟩ := rowI_some hR
          cases e1
          have := any_neg rfl hb
          show faultD w bs = _
          unfold faultD
          rw [this]; rfl
      exact yT c2 (yR (xT (xC xS xZ)) ⟨by rw [e], rfl⟩)
    | false =>
      rw [hb] at c2
      refine yF c2 ?_
      obtain ⟨bs, rfl, ha⟩ := any_ints hb
      have hbl : bs.length = w.ws.length := by simpa using hl
      have hF : faultX w (.tup (bs.map .int)) = match roomF w.ws bs with
          | some k => tagD "room" k
          | none => match houseF w.n w.ws bs with
            | some h => tagD "house" h
            | none => .non := by
        unfold faultX
        rw [rowI_ints hbl]
        show faultD w bs = _
        unfold faultD; rw [ha]; rfl
      refine Ok.cons (Ok.for ?_)
      rw [itR (n := bs.length) (by omega) (xLn (xV rfl) (by rw [lenT, List.length_map]))]
      refine .ret ?_
      refine (forL_find (srcNil M) (fun s => ∃ x2 : Option D, s = [some w.d, some (.tup (bs.map .int)), x2, none, none]) (fun k => decide ((wy w.ws k).r < nb bs k)) (fun k => .v (tagD "room" k)) ?_ ⟨none, rfl⟩).mono ?_
      · rintro i d s hd ⟨x2, rfl⟩
        obtain ⟨rfl, hi⟩ := at_range hd
        simp only [asgT, List.set]
        have ec : evE C (.cmp .gt (.ix (.var 1) (.var 2)) (.ix (.ix (.ix (.var 0) (.num 0)) (.var 2)) (.num 2))) [some w.d, some (.tup (bs.map .int)), some (.int (i : Nat)), none, none] M = .ok (.v (.bl (decide ((wy w.ws i).r < nb bs i)))) M :=
          xCm (xIx (xV rfl) (xV rfl) (ixNb hi)) (xIx (xIx (xIx (xV rfl) xN (web0 w)) (xV rfl) (ixWy (by omega))) xN (wyR _)) rfl
        refine ⟨fun hp => ⟨_, ⟨some (.int (i : Nat)), rfl⟩, ?_⟩, fun hp => ?_⟩
        · rw [hp] at ec
          rw [cons_nx ((ife_f ec).trans nil_nx), nil_nx]
        · rw [hp] at ec
          rw [cons_rt ((ife_t ec).trans (cons_rt (ret_eq (xT (xC xS (xC (xV rfl) xZ))))))]
          rfl
      · rintro fl M' ⟨hM, h⟩
        replace hM := hM.symm
        subst hM
        rw [List.length_map, List.length_range] at h
        have eR : (List.range bs.length).find? (fun k => decide ((wy w.ws k).r < nb bs k)) = roomF w.ws bs := by
          unfold roomF
          rw [hbl]
          refine find_congr fun k hk => ?_
          have h0 := List.all_eq_true.mp ha (nb bs k) (nb_mem (by have := List.mem_range.mp hk; omega))
          have h0' : 0 ≤ nb bs k := by simpa using h0
          show decide ((wy w.ws k).r < nb bs k) = !(decide (0 ≤ nb bs k) && decide (nb bs k ≤ (wy w.ws k).r))
          rw [decide_eq_true h0', Bool.true_and]
          by_cases c : nb bs k ≤ (wy w.ws k).r
          · rw [decide_eq_true c, decide_eq_false (by omega)]; rfl
          · rw [decide_eq_false c, decide_eq_true (by omega)]; rfl
        rw [eR] at h
        cases hR : roomF w.ws bs with
        | some k =>
          rw [hR] at h hF
          simp only at h hF
          subst h
          exact ⟨by rw [hF], rfl⟩
        | none =>
          rw [hR] at h hF
          simp only at h hF
          obtain ⟨s', ⟨x2, rfl⟩, rfl⟩ := h
          simp only
          refine Ok.cons (Ok.for ?_)
          rw [itR (n := w.n) (by omega) (xLn (xIx (xV rfl) xN (web1 w)) (by rw [lenT, List.length_map, ok.h0]))]
          refine .ret ?_
          refine (forL_find (srcNil M) (fun s => ∃ x3 : Option D, s = [some w.d, some (.tup (bs.map .int)), x2, x3, none]) (fun h => !decide (sumAt w.ws bs 0 (some h) = sumAt w.ws bs 1 (some h))) (fun k => .v (tagD "house" k)) ?_ ⟨none, rfl⟩).mono ?_
          · rintro i d s hd ⟨x3, rfl⟩
            obtain ⟨rfl, hi⟩ := at_range hd
            simp only [asgT, List.set]
            have z0 : C.call f1 [w.d, .tup (bs.map .int), .int 0, .int (i : Nat)] M = _ := q1 (sd := 0) (some i) (by omega) hbl (by decide) M
            have z1 : C.call f1 [w.d, .tup (bs.map .int), .int 1, .int (i : Nat)] M = _ := q1 (sd := 1) (some i) (by omega) hbl (by decide) M
            have ec : evE C (.cmp .ne (.call f1 (.cons (.var 0) (.cons (.var 1) (.cons (.num 0) (.cons (.var 3) .nil))))) (.call f1 (.cons (.var 0) (.cons (.var 1) (.cons (.num 1) (.cons (.var 3) .nil)))))) [some w.d, some (.tup (bs.map .int)), x2, some (.int (i : Nat)), none] M = .ok (.v (.bl (!decide (sumAt w.ws bs 0 (some i) = sumAt w.ws bs 1 (some i))))) M :=
              xCm (xF (xC (xV rfl) (xC (xV rfl) (xC xN (xC (xV rfl) xZ)))) z0) (xF (xC (xV rfl) (xC (xV rfl) (xC xN (xC (xV rfl) xZ)))) z1) (cmpNeI _ _)
            refine ⟨fun hp => ⟨_, ⟨some (.int (i : Nat)), rfl⟩, ?_⟩, fun hp => ?_⟩
            · rw [hp] at ec
              rw [cons_nx ((ife_f ec).trans nil_nx), nil_nx]
            · rw [hp] at ec
              rw [cons_rt ((ife_t ec).trans (cons_rt (ret_eq (xT (xC xS (xC (xV rfl) xZ))))))]
              rfl
          · rintro fl M' ⟨hM, h⟩
            replace hM := hM.symm
            subst hM
            rw [List.length_map, List.length_range] at h
            change (match houseF w.n w.ws bs with | some k => _ | none => _) at h
            cases hH : houseF w.n w.ws bs with
            | some k =>
              rw [hH] at h hF
              simp only at h hF
              subst h
              exact ⟨by rw [hF], rfl⟩
            | none =>
              rw [hH] at h hF
              simp only at h hF
              obtain ⟨s', ⟨x3, rfl⟩, rfl⟩ := h
              refine yR xO ?_
              exact ⟨by rw [hF], rfl⟩
  exact runB_pure rfl main.eq pure
end
end Ev

/-! EvQ5: streams with numbers otherwise. -/
namespace Ev
open PySem
def nearB (f_next f_one : Nat) : Ss := (.cons (.asg (.nm 3) (.bi .list (.val (.var 2))))
  (.cons (.for_ (.nm 4) (.rng1 (.bop .add (.num 1) (.call f_next (.cons (.var 0) (.cons (.num 2) .nil)))))
  (.cons (.asg (.nm 5) (.call f_next (.cons (.var 0) (.cons (.len (.var 3)) .nil))))
  (.cons (.setix (.var 3) (.var 5) (.call f_one (.cons (.var 0) (.cons (.lst (.cons (.bop .add (.ix (.var 3) (.var 5)) (.num 1)) (.cons (.bop .sub (.ix (.var 3) (.var 5)) (.num 1)) (.cons (.ix (.ix (.ix (.var 1) (.num 0)) (.var 5)) (.num 2)) (.cons (.bop .add (.ix (.ix (.ix (.var 1) (.num 0)) (.var 5)) (.num 2)) (.num 1)) (.cons (.num 0) .nil)))))) .nil))))
  .nil)))
  (.cons (.ret (.bi .tuple (.val (.var 3))))
  .nil)))
def IsNear (C : Cl) (f : Nat) : Prop := ∀ {hs rs B : Nat} {w : Web} {bs : List Int} {X M : Mem} (_ : w.Ok hs rs) (_ : rs ≤ 100) (_ : Strm w.ws bs) (_ : B + 10 < 2 ^ 60) (_ : Dk B X M),
  Ok (C.call f [.ref 3, w.d, .tup (bs.map .int)] M) fun x M' => ∃ cs : List Int, x = .v (.tup (cs.map .int)) ∧ cs.length = w.ws.length ∧ (∀ i ∈ cs, i.natAbs ≤ 10 ^ 12 + 10) ∧ Dk (B + 10) X M'
theorem seq_nat {n k : Nat} (h : k < n) : seqIx n (k : Int) = some k := by
  unfold seqIx L2.ixN
  rw [if_pos (by omega), if_pos (by omega)]
  rfl
section
variable {C : Cl} {w : Web} {hs rs nx on B : Nat} {bs : List Int} {X M : Mem}
theorem near_ok (hn : Nx C nx) (ho : One C on) (ok : w.Ok hs rs) (hr : rs ≤ 100) (st : Strm w.ws bs) (hB : B + 10 < 2 ^ 60) (h : Dk B X M) :
    Ok (runB C ⟨3, 6, nearB nx on⟩ [.ref 3, w.d, .tup (bs.map .int)] M) fun x M' => ∃ cs : List Int, x = .v (.tup (cs.map .int)) ∧ cs.length = w.ws.length ∧ (∀ i ∈ cs, i.natAbs ≤ 10 ^ 12 + 10) ∧ Dk (B + 10) X M' := by
  have hm1 := ok.m1
  have hm2 := ok.m2
  have hbl := st.len
  refine runB_ok rfl ?_
  show Ok (evSs C (nearB nx on) [some (.ref 3), some w.d, some (.tup (bs.map .int)), none, none, none] M) _
  unfold nearB
  refine yL (bListT (xV rfl)) ?_
  simp only [List.set]
  have hl := h.len
  rw [hl]
  have h1 : Dk B (X ++ O.lst (bs.map .int) :: []) (M ++ [O.lst (bs.map .int)]) := h.push _
  refine Ok.cons (Ok.for (rng1_okE ?_))
  rw [evE, xN, rbind_ok]
  refine Ok.bind (P := fun x M' => ∃ v : Nat, x = .v (.int (v : Nat)) ∧ v < 2 ∧ Dk (B + 1) (X ++ O.lst (bs.map .int) :: []) M') ?_ ?_
  · refine Ok.call ?_
    rw [xC (xV rfl) (xC xN xZ)]
    refine .ret ?_
    exact (hn (by decide) (by decide) (by omega) h1).mono fun x M' ⟨v, e, v0, v1, k⟩ => ⟨v.toNat, by rw [e, Int.toNat_of_nonneg v0], by omega, k⟩
  rintro x M1 ⟨v, rfl, hv, k1⟩
  rw [addI]
  refine .ret ⟨1 + v, by push_cast; rfl, by omega, ?_⟩
  refine forL_ok (fun i s M' => ∃ (x4 x5 : Option D) (cs : List Int) (G : Mem), s = [some (.ref 3), some w.d, some (.tup (bs.map .int)), some (.ref (4 + X.length)), x4, x5] ∧ cs.length = w.ws.length ∧ (∀ j ∈ cs, j.natAbs ≤ 10 ^ 12 + i) ∧ Dk (B + 1 + 2 * i) (X ++ O.lst (cs.map .int) :: G) M') ?_ ?_ ⟨none, none, bs, [], rfl, hbl, fun j hj => ?_, k1⟩
  · rintro i d s M2 hd ⟨x4, x5, cs, G, rfl, hcl, hcb, k2⟩
    obtain ⟨rfl, hi⟩ := rng_at (m := 1 + v) hd
    simp only [asgT, List.set]
    have g0 : M2[4 + X.length]? = some (.lst (cs.map .int)) := k2.mid
    -- at
    refine Ok.cons (Ok.asg (Ok.call ?_))
    rw [xC (xV rfl) (xC (xLn (xV rfl) (lenL g0)) xZ)]
    refine .ret ?_
    rw [List.length_map, hcl]
    refine (hn (many := w.ws.length) (by omega) (by omega) (by omega) k2).mono fun x M3 ⟨a, e, a0, a1, k3⟩ => ?_
    obtain ⟨a, rfl⟩ : ∃ b : Nat, a = b := ⟨a.toNat, by omega⟩
    subst e
    simp only [put, List.set]
    have ha : a < w.ws.length := by omega
    have g3 : M3[4 + X.length]? = some (.lst (cs.map .int)) := k3.mid
    refine Ok.cons ?_
    rw [evS, evE]
    have eL : evE C (.lst (.cons (.bop .add (.ix (.var 3) (.var 5)) (.num 1)) (.cons (.bop .sub (.ix (.var 3) (.var 5)) (.num 1)) (.cons (.ix (.ix (.ix (.var 1) (.num 0)) (.var 5)) (.num 2)) (.cons (.bop .add (.ix (.ix (.ix (.var 1) (.num 0)) (.var 5)) (.num 2)) (.num 1)) (.cons (.num 0) .nil)))))) [some (.ref 3), some w.d, some (.tup (bs.map .int)), some (.ref (4 + X.length)), some (.int (i : Nat)), some (.int (a : Nat))] M3 = .ok (.fl ([nb cs a + 1, nb cs a - 1, (wy w.ws a).r, (wy w.ws a).r + 1, 0].map .int)) M3 := by
      have i1 : ixW M3 (.v (.ref (4 + X.length))) (.v (.int (a : Nat))) = some (.v (.int (nb cs a))) := ixNbL g3 (by omega)
      exact xL (xC (xOp (xIx (xV rfl) (xV rfl) i1) xN rfl) (xC (xOp (xIx (xV rfl) (xV rfl) i1) xN rfl) (xC (xIx (xIx (xIx (xV rfl) xN (web0 w)) (xV rfl) (ixWy ha)) xN (wyR _)) (xC (xOp (xIx (xIx (xIx (xV rfl) xN (web0 w)) (xV rfl) (ixWy ha)) xN (wyR _)) xN rfl) (xC xN xZ)))))
    rw [xC (xV rfl) (xCF eL xZ), rbind_ok]
    have hl3 : M3.length = 4 + (X ++ O.lst (cs.map .int) :: G).length := k3.len
    have k4 := k3.push (O.lst ([nb cs a + 1, nb cs a - 1, (wy w.ws a).r, (wy w.ws a).r + 1, 0].map .int))
    have la : LstAt (X ++ O.lst (cs.map .int) :: G ++ [O.lst ([nb cs a + 1, nb cs a - 1, (wy w.ws a).r, (wy w.ws a).r + 1, 0].map .int)]) M3.length ([nb cs a + 1, nb cs a - 1, (wy w.ws a).r, (wy w.ws a).r + 1, 0].map .int) := by
      refine ⟨by omega, ?_⟩
      rw [hl3, show 4 + (X ++ O.lst (cs.map .int) :: G).length - 4 = (X ++ O.lst (cs.map .int) :: G).length by omega, List.getElem?_append_right (Nat.le_refl _), Nat.sub_self]
      rfl
    obtain ⟨x, M4, e4, d, rfl, hd4, k5⟩ := ho (by omega) k4 la (by simp) (by simp) (fun d hd => by obtain ⟨j, _, rfl⟩ := List.mem_map.mp hd; rfl)
    rw [e4]
    obtain ⟨j, hj, rfl⟩ := List.mem_map.mp hd4
    have k6 : Dk (B + 1 + 2 * i + 1 + 1) (X ++ O.lst (cs.map .int) :: (G ++ [O.lst ([nb cs a + 1, nb cs a - 1, (wy w.ws a).r, (wy w.ws a).r + 1, 0].map .int)])) M4 := by
      rw [List.append_assoc, List.cons_append] at k5; exact k5
    have g4 : M4[4 + X.length]? = some (.lst (cs.map .int)) := k6.mid
    have hw := ok.wo _ (wy_mem ha)
    have hca := hcb _ (nb_mem (bs := cs) (k := a) (by omega))
    have hr0 := hw.r0
    have hr1 := hw.r1
    have jb : j.natAbs ≤ 10 ^ 12 + (i + 1) := by
      simp only [List.mem_cons, List.not_mem_nil, or_false] at hj
      rcases hj with rfl | rfl | rfl | rfl | rfl <;> omega
    simp only [Res.put, rbind_ok, put]
    rw [xV rfl, rbind_ok, xV rfl, rbind_ok]
    simp only [g4, List.length_map]
    rw [seq_nat (by omega)]
    simp only
    refine .ret (Ok.nil ?_)
    have k7 := k6.setMid (.lst ((cs.set a j).map .int))
    rw [← List.map_set]
    refine ⟨srcNil _, _, _, cs.set a j, _, rfl, by rw [List.length_set]; exact hcl, fun q hq => ?_, k7.mono (by omega)⟩
    rcases List.mem_or_eq_of_mem_set hq with hq | rfl
    · have := hcb q hq; omega
    · exact jb
  · rintro s M2 ⟨x4, x5, cs, G, rfl, hcl, hcb, k2⟩
    have g0 : M2[4 + X.length]? = some (.lst (cs.map .int)) := k2.mid
    refine yR (bTupL g0 (xV rfl)) ?_
    have hlen : (rngD 0 ((1 + v : Nat) : Int)).length = 1 + v := by rw [rng_nat]; simp
    rw [hlen] at hcb k2
    refine h.leave k2 (d := .tup (cs.map .int)) ?_ fun M' k3 => ⟨cs, rfl, hcl, fun i hi => ?_, k3.mono (by omega)⟩
    · exact pures_all fun d hd => by obtain ⟨i, _, rfl⟩ := List.mem_map.mp hd; rfl
    · have := hcb i hi; omega
  · obtain ⟨k, hk, rfl⟩ := List.getElem_of_mem hj
    have h2 := st.nb0 k (by omega)
    have e : nb bs k = bs[k] := nb_of (List.getElem?_eq_getElem hk)
    have hw := ok.wo _ (wy_mem (show k < w.ws.length by omega))
    have := hw.r1
    rw [e] at h2
    omega
end
end Ev

/-! EvQ6: lists of things, as they grow. -/
namespace Ev
open PySem
section
variable {C : Cl} {s : Env} {M M1 : Mem}
theorem Ok.esC {e : E} {r : Es} {d : D} {P : List D → Mem → Prop} (h : evE C e s M = .ok (.v d) M1) (k : Ok (evEs C r s M1) fun l M' => P (d :: l) M') : Ok (evEs C (.cons e r) s M) P := by
  rw [evEs, h]
  show Ok ((evEs C r s M1).bind _) P
  exact k.bind fun l M' p => .ret p
theorem Ok.es1 {e : E} {P : List D → Mem → Prop} (h : Ok (evE C e s M) fun w M' => P [(Ev.put w M').1] (Ev.put w M').2) : Ok (evEs C (.cons e .nil) s M) P := by
  rw [evEs]
  obtain ⟨w, M', e, p⟩ := h
  rw [e]
  simp only [Res.put, rbind_ok, evEs]
  exact .ret p
theorem Ok.esO {e : E} {r : Es} {P : List D → Mem → Prop} (h : Ok (evE C e s M) fun w M' => Ok (evEs C r s (Ev.put w M').2) fun l M2 => P ((Ev.put w M').1 :: l) M2) : Ok (evEs C (.cons e r) s M) P := by
  rw [evEs]
  obtain ⟨w, M', e, p⟩ := h
  rw [e]
  simp only [Res.put, rbind_ok]
  exact p.bind fun l M2 q => .ret q
theorem Ok.esZ {P : List D → Mem → Prop} (h : P [] M) : Ok (evEs C .nil s M) P := by rw [evEs]; exact .ret h
theorem Ok.lst {es : Es} {P : W → Mem → Prop} (h : Ok (evEs C es s M) fun l M' => P (.fl l) M') : Ok (evE C (.lst es) s M) P := by
  rw [evE]
  exact h.bind fun l M' p => .ret p
/-- things put to a list amid the frame -/
theorem app_mid {B q : Nat} {Z X2 : Mem} {l : List D} {x : E} {r : Ss} {P : Fl → Mem → Prop} (hv : s[q]? = some (some (.ref (4 + Z.length)))) (hd : Dk B (Z ++ .lst l :: X2) M) (hl : l.length < 1000)
    (h : Ok (evE C x s M) fun w M' => ∃ B' X3, Dk B' (Z ++ .lst l :: X3) (Ev.put w M').2 ∧ (∀ M'', Dk B' (Z ++ .lst (l ++ [(Ev.put w M').1]) :: X3) M'' → Ok (evSs C r s M'') P)) :
    Ok (evSs C (.cons (.expr (.app (.var q) x)) r) s M) P := by
  have g0 : M[4 + Z.length]? = some (.lst l) := hd.mid
  refine Ok.cons (Ok.ex (Ok.app (Ok.of (xV hv) ⟨?_, h.mono fun w M' ⟨B', X3, d1, k⟩ => ?_⟩)))
  · simp only [recL, g0]
  · refine ⟨_, l, rfl, d1.mid, by omega, k _ ?_⟩
    exact d1.setMid _
end
theorem lenW_ways {M : Mem} (y : Web) : lenW M (.v (.tup (y.ws.map Way.d))) = some ((y.ws.length : Nat) : Int) := by rw [lenT, List.length_map]
/-- what is in the list -/
def ThI (Z X2 : Mem) (l : List D) : Prop := ∀ d ∈ l, Gd 4 Z 4 20 200000 d ∨ Gd (4 + (Z.length + 1)) X2 4 20 200000 d
theorem ThI.up {Z X2 : Mem} (Y : Mem) {l : List D} (h : ThI Z X2 l) : ThI Z (X2 ++ Y) l := fun d hd => (h d hd).imp id fun g => g.up (Nat.le_refl _) (Nat.le_refl _) (Nat.le_refl _)
theorem ThI.add {Z X2 : Mem} {l : List D} {d : D} (h : ThI Z X2 l) (g : Gd 4 Z 4 20 200000 d ∨ Gd (4 + (Z.length + 1)) X2 4 20 200000 d) : ThI Z X2 (l ++ [d]) := fun e he => by
  rcases List.mem_append.mp he with he | he
  · exact h e he
  · rw [List.mem_singleton.mp he]; exact g
theorem Pr.gd {n b c : Nat} {X : Mem} {d : D} (h : Pr n b d) : Gd c X 0 n b d := by
  obtain ⟨p, e, s⟩ := h.shw
  exact ⟨p, fun _ _ => e _, s.sh, s.dp, s.bk, s.ls⟩
/-- what the look wants of a thing -/
def Fine (M : Mem) (e d : D) : Prop := Tys M d ∧ (∃ z, reprW M (.fl [e, d]) = some z)
theorem fine_of {B r n b : Nat} {Z X M : Mem} {e d : D} (gw : Gd (4 + Z.length) X 0 3 30303 e) (hd : Dk B (Z ++ X) M) (g : Gd (4 + Z.length) X r n b d) (hr : r ≤ 4) (hn : n ≤ 20) (hb : b ≤ 200000) : Fine M e d := by
  refine ⟨g.tys hd, ?_⟩
  have gl : GdL (4 + Z.length) X 4 20 (30303 + 1 + (b + 1 + 0)) [e, d] := GdL.cons (gw.mono (by decide) (by decide) (Nat.le_refl _)) (GdL.cons (g.mono hr hn (Nat.le_refl _)) .nil (Nat.le_refl _)) (Nat.le_refl _)
  obtain ⟨z, hz⟩ := gl.repr (Nat.le_refl _) (by decide) (by omega)
  refine ⟨z, ?_⟩
  obtain ⟨g0, rs, ps, c, _, _, rfl⟩ := hd
  have := hz (dk (.lst (g0.map .int)) rs ps c ++ Z) (by simp [dk]; omega)
  rwa [List.append_assoc] at this
theorem ThI.fine {B : Nat} {Z X2 M : Mem} {l : List D} {e : D} (h : ThI Z X2 l) (ge : Pr 3 30303 e) (hd : Dk B (Z ++ .lst l :: X2) M) : ∀ d ∈ l, Fine M e d := fun d hm => by
  rcases h d hm with g | g
  · have g' : Gd (4 + ([] : Mem).length) (Z ++ .lst l :: X2) 4 20 200000 d := g.up (Nat.le_refl _) (Nat.le_refl _) (Nat.le_refl _)
    exact fine_of (Z := []) (X := Z ++ .lst l :: X2) ge.gd hd g' (Nat.le_refl _) (Nat.le_refl _) (Nat.le_refl _)
  · have g' : Gd (4 + (Z ++ [O.lst l]).length) X2 4 20 200000 d := by rw [List.length_append]; exact g
    have hd' : Dk B ((Z ++ [O.lst l]) ++ X2) M := by rw [List.append_assoc]; exact hd
    exact fine_of ge.gd hd' g' (Nat.le_refl _) (Nat.le_refl _) (Nat.le_refl _)
theorem ints_gd {c : Nat} {X : Mem} {l : List Int} (h : ∀ i ∈ l, i.natAbs ≤ 10 ^ 12 + 10) (hl : l.length ≤ 1000) : Gd c X 0 1 1000 (.tup (l.map .int)) :=
  GdL.tup (Gd.ints (fun i hi => by
    have := h i hi
    have e : (10 : Nat) ^ 40 = 10000000000000000000000000000000000000000 := by decide
    rw [e]; omega) hl)
theorem strm_gd {c : Nat} {X : Mem} {y : Web} {bs : List Int} (yo : y.Ok 8 20) (st : Strm y.ws bs) : Gd c X 0 1 1000 (.tup (bs.map .int)) := by
  have hm := yo.m2
  have hl := st.len
  refine ints_gd (fun i hi => ?_) (by omega)
  obtain ⟨k, hk, rfl⟩ := List.getElem_of_mem hi
  have h2 := st.nb0 k (by omega)
  have e : nb bs k = bs[k] := nb_of (List.getElem?_eq_getElem hk)
  have hw := yo.wo _ (wy_mem (show k < y.ws.length by omega))
  have := hw.r1
  rw [e] at h2
  omega
theorem tag_gd {c : Nat} {X : Mem} {t : Str} {k : Nat} (h1 : t.cps.size ≤ 10) (h2 : (t.cps.toList.all fun c => decide (c < 16 ^ 8)) = true) (hk : k ≤ 1000) : Gd c X 0 2 50 (tagD t k) := by
  have hi : ((k : Nat) : Int).natAbs < 10 ^ 40 := by
    have e : (10 : Nat) ^ 40 = 10000000000000000000000000000000000000000 := by decide
    rw [e]; omega
  exact GdL.tup (GdL.cons (b := 10) (b' := 1) (.str h1 h2) (GdL.cons (b := 0) (b' := 0) (.int hi) .nil (by decide)) (by decide))
theorem form_gd {c : Nat} {X : Mem} : Gd c X 0 2 50 (.tup [.str "form"]) := GdL.tup (GdL.cons (b := 10) (b' := 0) (.str (by decide) (by decide)) .nil (by decide))
theorem fault_gd {c : Nat} {X : Mem} {w : Web} {d : D} (h1 : w.ws.length ≤ 1000) (h2 : w.n ≤ 1000) : Gd c X 0 2 50 (faultX w d) := by
  unfold faultX
  split
  · unfold faultD
    split
    · split
      · rename_i k hk
        have := List.mem_range.mp (List.mem_of_find?_eq_some hk)
        exact tag_gd (by decide) (by decide) (by omega)
      · split
        · rename_i k hk
          have := List.mem_range.mp (List.mem_of_find?_eq_some hk)
          exact tag_gd (by decide) (by decide) (by omega)
        · exact .non
    · exact form_gd
  · exact form_gd
end Ev

namespace Ev.K03
open PySem PySem.Spec PyProof.Rows L2
def stAt (i : Nat) : Stmt := PySem.Challenge.pw_unturned_k03_streams_judged.main.body.getD i (.Pass ⟨0, 0, 0, 0⟩)
/-! 0: is_number -/
def b0 : Ss := (.cons (.ret (.and (.isi (.var 0) .int) (.and (.not (.isi (.var 0) .bool)) (.chain .le .le (.var 1) (.var 0) (.var 2)))))
  .nil)
def d0 : FD := ⟨3, 3, b0⟩
def r0 : DR := ⟨"is_number", stAt 1, ["thing", "low", "high"], ["thing", "low", "high"], d0⟩
/-! 1: is_row -/
def b1 : Ss := (.cons (.ret (.and (.isi (.var 0) .tuple) (.chain .le .le (.var 1) (.len (.var 0)) (.var 2))))
  .nil)
def d1 : FD := ⟨3, 3, b1⟩
def r1 : DR := ⟨"is_row", stAt 2, ["thing", "least", "most"], ["thing", "least", "most"], d1⟩
/-! 2: houses_of -/
def b2 : Ss := (.cons (.ret (.len (.ix (.var 0) (.num 1))))
  .nil)
def d2 : FD := ⟨1, 1, b2⟩
def r2 : DR := ⟨"houses_of", stAt 3, ["web"], ["web"], d2⟩
/-! 3: sums -/
def b3 : Ss := (.cons (.asg (.nm 3) (.bop .mul (.lst (.cons (.num 0) .nil)) (.call 2 (.cons (.var 0) .nil))))
  (.cons (.for_ (.tp (.cons (.nm 4) (.cons (.nm 5) .nil))) (.zip2 (.ix (.var 0) (.num 0)) (.var 1))
  (.cons (.ife (.cmp .isnot (.ix (.var 4) (.var 2)) .non)
  (.cons (.augix .add (.var 3) (.ix (.var 4) (.var 2)) (.var 5))
  .nil)
  .nil)
  .nil))
  (.cons (.ret (.bi .tuple (.val (.var 3))))
  .nil)))
def d3 : FD := ⟨3, 6, b3⟩
def r3 : DR := ⟨"sums", stAt 5, ["web", "stream", "side", "found", "road", "many"], ["web", "stream", "side"], d3⟩
/-! 4: is_amount -/
def b4 : Ss := (.cons (.ret (.and (.isi (.var 0) .int) (.and (.not (.isi (.var 0) .bool)) (.cmp .ge (.var 0) (.num 0)))))
  .nil)
def d4 : FD := ⟨1, 1, b4⟩
def r4 : DR := ⟨"is_amount", stAt 6, ["thing"], ["thing"], d4⟩
/-! 5: streamfault -/
def b5 : Ss := (.cons (.asg (.nm 2) (.len (.ix (.var 0) (.num 0))))
  (.cons (.ife (.or (.not (.call 1 (.cons (.var 1) (.cons (.var 2) (.cons (.var 2) .nil))))) (.not (.bi .all (.val (.comp (.call 4 (.cons (.var 8) .nil)) (.nm 8) (.val (.var 1)) .none [8])))))
  (.cons (.ret (.tup (.cons (.str "form") .nil)))
  .nil)
  .nil)
  (.cons (.for_ (.tp (.cons (.nm 3) (.cons (.nm 4) .nil))) (.enum (.ix (.var 0) (.num 0)))
  (.cons (.ife (.not (.call 0 (.cons (.ix (.var 1) (.var 3)) (.cons (.num 0) (.cons (.ix (.var 4) (.num 2)) .nil)))))
  (.cons (.ret (.tup (.cons (.str "room") (.cons (.var 3) .nil))))
  .nil)
  .nil)
  .nil))
  (.cons (.for_ (.tp (.cons (.nm 5) (.cons (.tp (.cons (.nm 6) (.cons (.nm 7) .nil))) .nil))) (.enz (.call 3 (.cons (.var 0) (.cons (.var 1) (.cons (.num 0) .nil)))) (.call 3 (.cons (.var 0) (.cons (.var 1) (.cons (.num 1) .nil)))))
  (.cons (.ife (.cmp .ne (.var 6) (.var 7))
  (.cons (.ret (.tup (.cons (.str "house") (.cons (.var 5) .nil))))
  .nil)
  .nil)
  .nil))
  (.cons (.ret .non)
  .nil)))))
def d5 : FD := ⟨2, 9, b5⟩
def r5 : DR := ⟨"streamfault", stAt 7, ["web", "thing", "many", "number", "road", "house", "gone", "come", "one"], ["web", "thing"], d5⟩
/-! 6: nothing -/
def b6 : Ss := (.cons (.ret (.bop .mul (.tup (.cons (.num 0) .nil)) (.len (.ix (.var 0) (.num 0)))))
  .nil)
def d6 : FD := ⟨1, 1, b6⟩
def r6 : DR := ⟨"nothing", stAt 8, ["web"], ["web"], d6⟩
/-! 7: _law_deck -/
def b7 : Ss := (.cons (.asg (.nm 1) (.comp (.abs (.var 2)) (.nm 2) (.val (.var 0)) .none [2]))
  (.cons (.ret (.lst (.cons (.comp (.var 2) (.nm 2) (.val (.var 1)) (.some (.cmp .ge (.var 2) (.bop .pow (.num 10) (.num 18)))) [2]) (.cons (.bop .add (.var 1) (.lst (.cons (.bop .add (.len (.var 1)) (.num 5)) .nil))) (.cons (.num 0) .nil)))))
  .nil))
def d7 : FD := ⟨1, 3, b7⟩
def r7 : DR := ⟨"_law_deck", stAt 10, ["_law_script", "_law_cells", "_law_cell"], ["_law_script"], d7⟩
/-! 8: _law_next -/
def b8 : Ss := (.cons (.whl (.cmp .ne (.ix (.var 0) (.num 0)) (.lst .nil))
  (.cons (.asg (.nm 4) (.ix (.ix (.var 0) (.num 0)) (.num 0)))
  (.cons (.ife (.cmp .gt (.var 4) (.num 0))
  (.cons (.setix (.ix (.var 0) (.num 0)) (.num 0) (.bop .fdiv (.var 4) (.var 1)))
  (.cons (.ret (.bop .mod (.var 4) (.var 1)))
  .nil))
  .nil)
  (.cons (.expr (.popi (.ix (.var 0) (.num 0)) (.num 0)))
  .nil))))
  (.cons (.setix (.var 0) (.num 2) (.bop .add (.ix (.var 0) (.num 2)) (.num 1)))
  (.cons (.asg (.nm 2) (.bop .mod (.ix (.ix (.var 0) (.num 1)) (.bop .mod (.ix (.var 0) (.num 2)) (.len (.ix (.var 0) (.num 1))))) (.num 2147483647)))
  (.cons (.asg (.nm 3) (.bop .add (.bop .add (.bop .mul (.var 2) (.bop .add (.num 48271) (.bop .mul (.num 40692) (.ix (.var 0) (.num 2))))) (.bop .mul (.bop .mul (.num 69621) (.ix (.var 0) (.num 2))) (.ix (.var 0) (.num 2)))) (.num 13)))
  (.cons (.asg (.nm 3) (.bop .mod (.var 3) (.num 2147483629)))
  (.cons (.ret (.bop .mod (.bop .fdiv (.bop .mod (.bop .mul (.var 3) (.var 3)) (.num 2147483587)) (.num 16)) (.var 1)))
  .nil))))))
def d8 : FD := ⟨2, 5, b8⟩
def r8 : DR := ⟨"_law_next", stAt 11, ["_law_deck_here", "_law_many", "_law_cell", "_law_mixed", "_law_rest"], ["_law_deck_here", "_law_many"], d8⟩
/-! 9: _law_one -/
def b9 : Ss := (.cons (.ret (.ix (.var 1) (.call 8 (.cons (.var 0) (.cons (.len (.var 1)) .nil)))))
  .nil)
def d9 : FD := ⟨2, 2, b9⟩
def r9 : DR := ⟨"_law_one", stAt 12, ["_law_deck_here", "_law_some"], ["_law_deck_here", "_law_some"], d9⟩
/-! 10: _law_room -/
def b10 : Ss := (.cons (.asg (.nm 2) (.call 9 (.cons (.var 0) (.cons (.lst (.cons (.num 0) (.cons (.num 1) (.cons (.num 1) (.cons (.num 2) (.cons (.num 3) (.cons (.num 5) .nil))))))) .nil))))
  (.cons (.asg (.nm 3) (.call 9 (.cons (.var 0) (.cons (.lst (.cons (.num 1) (.cons (.num 2) (.cons (.bop .pow (.num 10) (.num 12)) (.cons (.bop .sub (.bop .pow (.num 10) (.num 12)) (.call 8 (.cons (.var 0) (.cons (.num 3) .nil)))) (.cons (.call 8 (.cons (.var 0) (.cons (.bop .pow (.num 10) (.num 12)) .nil))) .nil)))))) .nil))))
  (.cons (.ret (.ix (.lst (.cons (.var 2) (.cons (.var 3) .nil))) (.toint (.var 1))))
  .nil)))
def d10 : FD := ⟨2, 4, b10⟩
def r10 : DR := ⟨"_law_room", stAt 13, ["_law_deck_here", "_law_far", "_law_small", "_law_great"], ["_law_deck_here", "_law_far"], d10⟩
/-! 11: _law_order -/
def b11 : Ss := (.cons (.asg (.nm 2) (.lst .nil))
  (.cons (.for_ (.nm 3) (.val (.var 1))
  (.cons (.expr (.ins (.var 2) (.call 8 (.cons (.var 0) (.cons (.bop .add (.len (.var 2)) (.num 1)) .nil))) (.var 3)))
  .nil))
  (.cons (.ret (.bi .tuple (.val (.var 2))))
  .nil)))
def d11 : FD := ⟨2, 4, b11⟩
def r11 : DR := ⟨"_law_order", stAt 14, ["_law_deck_here", "_law_numbers", "_law_found", "_law_number"], ["_law_deck_here", "_law_numbers"], d11⟩
/-! 12: _law_road -/
def b12 : Ss := (.cons (.asg (.nm 3) (.call 8 (.cons (.var 0) (.cons (.bop .add (.var 1) (.num 1)) .nil))))
  (.cons (.asg (.nm 4) (.bop .mod (.bop .add (.bop .add (.var 3) (.num 1)) (.call 8 (.cons (.var 0) (.cons (.var 1) .nil)))) (.bop .add (.var 1) (.num 1))))
  (.cons (.asg (.tp (.cons (.nm 5) (.cons (.nm 6) .nil))) (.comp (.ix (.lst (.cons .non (.cons (.bop .sub (.var 7) (.num 1)) .nil))) (.toint (.cmp .gt (.var 7) (.num 0)))) (.nm 7) (.val (.tup (.cons (.var 3) (.cons (.var 4) .nil)))) .none [7]))
  (.cons (.ret (.tup (.cons (.var 5) (.cons (.var 6) (.cons (.call 10 (.cons (.var 0) (.cons (.var 2) .nil))) .nil)))))
  .nil))))
def d12 : FD := ⟨3, 8, b12⟩
def r12 : DR := ⟨"_law_road", stAt 15, ["_law_deck_here", "_law_houses", "_law_far", "_law_one_here", "_law_other", "_law_begin", "_law_end", "_law_number"], ["_law_deck_here", "_law_houses", "_law_far"], d12⟩
/-! 13: _law_web -/
def b13 : Ss := (.cons (.asg (.nm 4) (.bop .add (.num 1) (.call 8 (.cons (.var 0) (.cons (.var 1) .nil)))))
  (.cons (.asg (.nm 5) (.comp (.call 12 (.cons (.var 0) (.cons (.var 4) (.cons (.var 3) .nil)))) (.nm 10) (.rng1 (.bop .add (.num 1) (.call 8 (.cons (.var 0) (.cons (.var 2) .nil))))) .none [10]))
  (.cons (.asg (.nm 6) (.lst .nil))
  (.cons (.for_ (.nm 7) (.val (.tup (.cons (.num 0) (.cons (.num 1) .nil))))
  (.cons (.asg (.nm 8) (.lst .nil))
  (.cons (.for_ (.nm 9) (.rng1 (.var 4))
  (.cons (.expr (.app (.var 8) (.call 11 (.cons (.var 0) (.cons (.comp (.var 10) (.nm 10) (.rng1 (.len (.var 5))) (.some (.cmp .eq (.ix (.ix (.var 5) (.var 10)) (.var 7)) (.var 9))) [10]) .nil)))))
  .nil))
  (.cons (.expr (.app (.var 6) (.bi .tuple (.val (.var 8)))))
  .nil))))
  (.cons (.ret (.tup (.cons (.bi .tuple (.val (.var 5))) (.cons (.ix (.var 6) (.num 0)) (.cons (.ix (.var 6) (.num 1)) .nil)))))
  .nil)))))
def d13 : FD := ⟨4, 11, b13⟩
def r13 : DR := ⟨"_law_web", stAt 16, ["_law_deck_here", "_law_houses", "_law_roads", "_law_far", "_law_count", "_law_found", "_law_orders", "_law_side", "_law_rows", "_law_house", "_law_k"], ["_law_deck_here", "_law_houses", "_law_roads", "_law_far"], d13⟩
/-! 14: _law_round -/
def b14 : Ss := (.cons (.asg (.nm 3) (.comp (.var 10) (.nm 10) (.rng1 (.len (.ix (.var 1) (.num 0)))) (.some (.cmp .lt (.ix (.var 2) (.var 10)) (.ix (.ix (.ix (.var 1) (.num 0)) (.var 10)) (.num 2)))) [10]))
  (.cons (.asg (.nm 4) (.comp (.var 10) (.nm 10) (.val (.var 3)) (.some (.cmp .is (.ix (.ix (.ix (.var 1) (.num 0)) (.var 10)) (.num 0)) .non)) [10]))
  (.cons (.ife (.or (.cmp .eq (.var 4) (.lst .nil)) (.cmp .eq (.call 8 (.cons (.var 0) (.cons (.num 3) .nil))) (.num 0)))
  (.cons (.asg (.nm 4) (.var 3))
  .nil)
  .nil)
  (.cons (.ife (.cmp .eq (.var 4) (.lst .nil))
  (.cons (.ret (.lst .nil))
  .nil)
  .nil)
  (.cons (.asg (.nm 5) (.lst (.cons (.call 9 (.cons (.var 0) (.cons (.var 4) .nil))) .nil)))
  (.cons (.asg (.nm 6) (.lst (.cons (.ix (.ix (.ix (.var 1) (.num 0)) (.ix (.var 5) (.num 0))) (.num 0)) .nil)))
  (.cons (.whl (.cmp .notin (.ix (.ix (.ix (.var 1) (.num 0)) (.ix (.var 5) (.neg (.num 1)))) (.num 1)) (.bop .add (.var 6) (.lst (.cons .non .nil))))
  (.cons (.asg (.nm 8) (.ix (.ix (.ix (.var 1) (.num 0)) (.ix (.var 5) (.neg (.num 1)))) (.num 1)))
  (.cons (.expr (.app (.var 6) (.var 8)))
  (.cons (.asg (.nm 9) (.comp (.var 10) (.nm 10) (.val (.var 3)) (.some (.cmp .eq (.ix (.ix (.ix (.var 1) (.num 0)) (.var 10)) (.num 0)) (.var 8))) [10]))
  (.cons (.ife (.cmp .eq (.var 9) (.lst .nil))
  (.cons (.ret (.lst .nil))
  .nil)
  .nil)
  (.cons (.expr (.app (.var 5) (.call 9 (.cons (.var 0) (.cons (.var 9) .nil)))))
  .nil))))))
  (.cons (.asg (.nm 7) (.ix (.ix (.ix (.var 1) (.num 0)) (.ix (.var 5) (.neg (.num 1)))) (.num 1)))
  (.cons (.ife (.and (.cmp .is (.var 7) .non) (.cmp .isnot (.ix (.ix (.ix (.var 1) (.num 0)) (.ix (.var 5) (.num 0))) (.num 0)) .non))
  (.cons (.ret (.lst .nil))
  .nil)
  .nil)
  (.cons (.ret (.sl (.var 5) (.some (.ix (.lst (.cons (.idx (.var 6) (.var 7)) (.cons (.num 0) .nil))) (.toint (.cmp .is (.var 7) .non)))) .none))
  .nil))))))))))
def d14 : FD := ⟨3, 11, b14⟩
def r14 : DR := ⟨"_law_round", stAt 17, ["_law_deck_here", "_law_web_here", "_law_bears", "_law_lit", "_law_begins", "_law_row", "_law_seen", "_law_end", "_law_house", "_law_further", "_law_k"], ["_law_deck_here", "_law_web_here", "_law_bears"], d14⟩
/-! 15: _law_stream -/
def b15 : Ss := (.cons (.asg (.nm 3) (.bop .mul (.lst (.cons (.num 0) .nil)) (.len (.ix (.var 1) (.num 0)))))
  (.cons (.for_ (.nm 4) (.rng1 (.var 2))
  (.cons (.asg (.nm 5) (.call 14 (.cons (.var 0) (.cons (.var 1) (.cons (.var 3) .nil)))))
  (.cons (.ife (.cmp .ne (.var 5) (.lst .nil))
  (.cons (.asg (.nm 6) (.bi .min (.val (.comp (.bop .sub (.ix (.ix (.ix (.var 1) (.num 0)) (.var 8)) (.num 2)) (.ix (.var 3) (.var 8))) (.nm 8) (.val (.var 5)) .none [8]))))
  (.cons (.asg (.nm 7) (.call 9 (.cons (.var 0) (.cons (.lst (.cons (.num 1) (.cons (.var 6) (.cons (.bop .add (.num 1) (.call 8 (.cons (.var 0) (.cons (.var 6) .nil)))) .nil)))) .nil))))
  (.cons (.for_ (.nm 8) (.val (.var 5))
  (.cons (.setix (.var 3) (.var 8) (.bop .add (.ix (.var 3) (.var 8)) (.var 7)))
  .nil))
  .nil)))
  .nil)
  .nil)))
  (.cons (.ret (.bi .tuple (.val (.var 3))))
  .nil)))
def d15 : FD := ⟨3, 9, b15⟩
def r15 : DR := ⟨"_law_stream", stAt 18, ["_law_deck_here", "_law_web_here", "_law_several", "_law_bears", "_law_turn", "_law_row", "_law_most", "_law_many", "_law_k"], ["_law_deck_here", "_law_web_here", "_law_several"], d15⟩
/-! 16: _law_whole -/
def b16 : Ss := (.cons (.ret (.and (.isi (.var 0) .int) (.not (.isi (.var 0) .bool))))
  .nil)
def d16 : FD := ⟨1, 1, b16⟩
def r16 : DR := ⟨"_law_whole", stAt 19, ["_law_thing"], ["_law_thing"], d16⟩
/-! 17: _law_odd -/
def b17 : Ss := (.cons (.asg (.nm 1) (.lst (.cons .non (.cons (.bl true) (.cons (.bl false) (.cons (.num 0) (.cons (.num 1) (.cons (.neg (.num 1)) (.cons (.num 9) (.cons (.bop .add (.bop .pow (.num 10) (.num 12)) (.num 1)) (.cons (.bop .pow (.num 10) (.num 29)) (.cons (.str "") (.cons (.str "0") (.cons (.tup .nil) (.cons (.tup (.cons (.num 0) .nil)) (.cons (.tup (.cons .non .nil)) (.cons (.lst .nil) (.cons (.lst (.cons (.num 0) .nil)) (.cons .dnew (.cons (.tup (.cons (.tup .nil) .nil)) .nil))))))))))))))))))))
  (.cons (.ret (.ix (.var 1) (.call 8 (.cons (.var 0) (.cons (.num 18) .nil)))))
  .nil))
def d17 : FD := ⟨1, 2, b17⟩
def r17 : DR := ⟨"_law_odd", stAt 20, ["_law_deck_here", "_law_some"], ["_law_deck_here"], d17⟩
/-! 18: _law_bent -/
def b18 : Ss := (.cons (.ife (.or (.not (.isi (.var 1) .tuple)) (.or (.cmp .eq (.var 1) (.tup .nil)) (.or (.cmp .eq (.var 2) (.num 0)) (.cmp .eq (.call 8 (.cons (.var 0) (.cons (.num 6) .nil))) (.num 0)))))
  (.cons (.ret (.call 17 (.cons (.var 0) .nil)))
  .nil)
  .nil)
  (.cons (.asg (.nm 3) (.call 8 (.cons (.var 0) (.cons (.len (.var 1)) .nil))))
  (.cons (.asg (.nm 4) (.call 8 (.cons (.var 0) (.cons (.num 8) .nil))))
  (.cons (.ife (.cmp .eq (.var 4) (.num 0))
  (.cons (.ret (.bop .add (.sl (.var 1) .none (.some (.var 3))) (.sl (.var 1) (.some (.bop .add (.var 3) (.num 1))) .none)))
  .nil)
  .nil)
  (.cons (.ife (.cmp .eq (.var 4) (.num 1))
  (.cons (.ret (.bop .add (.bop .add (.sl (.var 1) .none (.some (.var 3))) (.tup (.cons (.ix (.var 1) (.var 3)) .nil))) (.sl (.var 1) (.some (.var 3)) .none)))
  .nil)
  .nil)
  (.cons (.ife (.cmp .eq (.var 4) (.num 2))
  (.cons (.ret (.bi .list (.val (.var 1))))
  .nil)
  .nil)
  (.cons (.ife (.cmp .eq (.var 4) (.num 3))
  (.cons (.ret (.rev (.var 1)))
  .nil)
  .nil)
  (.cons (.ret (.bop .add (.bop .add (.sl (.var 1) .none (.some (.var 3))) (.tup (.cons (.call 18 (.cons (.var 0) (.cons (.ix (.var 1) (.var 3)) (.cons (.bop .sub (.var 2) (.num 1)) .nil)))) .nil))) (.sl (.var 1) (.some (.bop .add (.var 3) (.num 1))) .none)))
  .nil))))))))
def d18 : FD := ⟨3, 5, b18⟩
def r18 : DR := ⟨"_law_bent", stAt 21, ["_law_deck_here", "_law_thing", "_law_deep", "_law_at", "_law_way"], ["_law_deck_here", "_law_thing", "_law_deep"], d18⟩
/-! 19: _law_sum -/
def b19 : Ss := (.cons (.ret (.bi .sum (.val (.comp (.ix (.var 1) (.var 4)) (.nm 4) (.rng1 (.len (.ix (.var 0) (.num 0)))) (.some (.cmp .eq (.ix (.ix (.ix (.var 0) (.num 0)) (.var 4)) (.var 2)) (.var 3))) [4]))))
  .nil)
def d19 : FD := ⟨4, 5, b19⟩
def r19 : DR := ⟨"_law_sum", stAt 22, ["_law_web_here", "_law_bears", "_law_side", "_law_house", "_law_k"], ["_law_web_here", "_law_bears", "_law_side", "_law_house"], d19⟩
/-! 20: _law_stream_fault -/
def b20 : Ss := (.cons (.ife (.or (.not (.isi (.var 1) .tuple)) (.cmp .ne (.len (.var 1)) (.len (.ix (.var 0) (.num 0)))))
  (.cons (.ret (.tup (.cons (.str "form") .nil)))
  .nil)
  .nil)
  (.cons (.ife (.cmp .ne (.comp (.num 1) (.nm 4) (.val (.var 1)) (.some (.or (.not (.call 16 (.cons (.var 4) .nil))) (.cmp .lt (.var 4) (.num 0)))) [4]) (.lst .nil))
  (.cons (.ret (.tup (.cons (.str "form") .nil)))
  .nil)
  .nil)
  (.cons (.for_ (.nm 2) (.rng1 (.len (.var 1)))
  (.cons (.ife (.cmp .gt (.ix (.var 1) (.var 2)) (.ix (.ix (.ix (.var 0) (.num 0)) (.var 2)) (.num 2)))
  (.cons (.ret (.tup (.cons (.str "room") (.cons (.var 2) .nil))))
  .nil)
  .nil)
  .nil))
  (.cons (.for_ (.nm 3) (.rng1 (.len (.ix (.var 0) (.num 1))))
  (.cons (.ife (.cmp .ne (.call 19 (.cons (.var 0) (.cons (.var 1) (.cons (.num 0) (.cons (.var 3) .nil))))) (.call 19 (.cons (.var 0) (.cons (.var 1) (.cons (.num 1) (.cons (.var 3) .nil))))))
  (.cons (.ret (.tup (.cons (.str "house") (.cons (.var 3) .nil))))
  .nil)
  .nil)
  .nil))
  (.cons (.ret .non)
  .nil)))))
def d20 : FD := ⟨2, 5, b20⟩
def r20 : DR := ⟨"_law_stream_fault", stAt 23, ["_law_web_here", "_law_thing", "_law_k", "_law_house", "_law_one_here"], ["_law_web_here", "_law_thing"], d20⟩
/-! 21: _law_near -/
def b21 : Ss := (.cons (.asg (.nm 3) (.bi .list (.val (.var 2))))
  (.cons (.for_ (.nm 4) (.rng1 (.bop .add (.num 1) (.call 8 (.cons (.var 0) (.cons (.num 2) .nil)))))
  (.cons (.asg (.nm 5) (.call 8 (.cons (.var 0) (.cons (.len (.var 3)) .nil))))
  (.cons (.setix (.var 3) (.var 5) (.call 9 (.cons (.var 0) (.cons (.lst (.cons (.bop .add (.ix (.var 3) (.var 5)) (.num 1)) (.cons (.bop .sub (.ix (.var 3) (.var 5)) (.num 1)) (.cons (.ix (.ix (.ix (.var 1) (.num 0)) (.var 5)) (.num 2)) (.cons (.bop .add (.ix (.ix (.ix (.var 1) (.num 0)) (.var 5)) (.num 2)) (.num 1)) (.cons (.num 0) .nil)))))) .nil))))
  .nil)))
  (.cons (.ret (.bi .tuple (.val (.var 3))))
  .nil)))
def d21 : FD := ⟨3, 6, b21⟩
def r21 : DR := ⟨"_law_near", stAt 24, ["_law_deck_here", "_law_web_here", "_law_stream_here", "_law_found", "_law_k", "_law_at"], ["_law_deck_here", "_law_web_here", "_law_stream_here"], d21⟩
/-! 22: law -/
def b22 : Ss := (.cons (.asg (.nm 1) (.call 7 (.cons (.var 0) .nil)))
  (.cons (.for_ (.nm 2) (.rng1 (.num 8))
  (.cons (.asg (.nm 3) (.call 13 (.cons (.var 1) (.cons (.num 8) (.cons (.num 20) (.cons (.cmp .eq (.call 8 (.cons (.var 1) (.cons (.num 2) .nil))) (.num 0)) .nil))))))
  (.cons (.asg (.nm 4) (.call 15 (.cons (.var 1) (.cons (.var 3) (.cons (.call 8 (.cons (.var 1) (.cons (.num 9) .nil))) .nil)))))
  (.cons (.asg (.nm 5) (.lst (.cons (.var 4) (.cons (.call 6 (.cons (.var 3) .nil)) (.cons (.bop .mul (.tup (.cons (.num 0) .nil)) (.len (.ix (.var 3) (.num 0)))) (.cons (.call 17 (.cons (.var 1) .nil)) .nil))))))
  (.cons (.for_ (.nm 6) (.rng1 (.num 10))
  (.cons (.expr (.app (.var 5) (.call 21 (.cons (.var 1) (.cons (.var 3) (.cons (.var 4) .nil))))))
  (.cons (.expr (.app (.var 5) (.call 18 (.cons (.var 1) (.cons (.var 4) (.cons (.num 1) .nil))))))
  .nil)))
  (.cons (.for_ (.nm 7) (.val (.var 5))
  (.cons (.asg (.nm 8) (.repr (.lst (.cons (.var 3) (.cons (.var 7) .nil)))))
  (.cons (.ife (.or (.cmp .ne (.repr (.call 5 (.cons (.var 3) (.cons (.var 7) .nil)))) (.repr (.call 20 (.cons (.var 3) (.cons (.var 7) .nil))))) (.cmp .ne (.repr (.lst (.cons (.var 3) (.cons (.var 7) .nil)))) (.var 8)))
  (.cons (.ret (.bl false))
  .nil)
  .nil)
  .nil)))
  (.cons (.ife (.cmp .isnot (.call 5 (.cons (.var 3) (.cons (.var 4) .nil))) .non)
  (.cons (.ret (.bl false))
  .nil)
  .nil)
  .nil)))))))
  (.cons (.ret (.bl true))
  .nil)))
def d22 : FD := ⟨1, 9, b22⟩
def r22 : DR := ⟨"law", stAt 25, ["_law_script", "_law_deck_here", "_law_turn", "_law_web_here", "_law_stream_here", "_law_things", "_law_k", "_law_thing", "_law_kept"], ["_law_script"], d22⟩
def ds : List DR := [r0, r1, r2, r3, r4, r5, r6, r7, r8, r9, r10, r11, r12, r13, r14, r15, r16, r17, r18, r19, r20, r21, r22]
def bn : List Str := ["abs", "all", "bool", "enumerate", "int", "isinstance", "len", "list", "min", "range", "repr", "sum", "tuple", "zip"]
def cn : List Str := []
def glb : Nat → D
  | _ => .non
theorem chk : ds.all (DR.chk ds cn bn) = true := by decide +kernel
noncomputable abbrev run (k j : Nat) (l : List D) (M : Mem) : Res W := callF (ds.map (·.d)) glb 200 k j l M
noncomputable abbrev lv (n : Nat) : Cl := lvl (ds.map (·.d)) glb 200 n
theorem H : HarnA (ds.map (·.d)) 7 8 9 10 11 12 13 := ⟨rfl, rfl, rfl, rfl, rfl, rfl, rfl⟩
theorem hRo : ∃ ns, (ds.map (·.d))[14]? = some ⟨3, ns, roundB 8 9⟩ ∧ ns = 11 := ⟨_, rfl, rfl⟩
theorem hSt : (ds.map (·.d))[15]? = some ⟨3, 9, streamB 8 9 14⟩ := rfl
theorem hO (n : Nat) : IsHouses (lv (n + 1)) 2 := fun ok M => lvl_eq (fd := d2) rfl (houses_of_ok ok)
theorem hS (n : Nat) : IsSums (lv (n + 2)) 3 := fun ok hh hr hb hs M => lvl_eq (n := n + 1) (fd := d3) rfl (sums_ok (hO n) ok hh hr hb hs)
theorem hN (n : Nat) : IsNothing (lv (n + 1)) 6 := fun ok hr M => lvl_eq (fd := d6) rfl (nothing_ok ok hr)
theorem hL (n : Nat) : IsSum (lv (n + 1)) 19 := fun o hz hb hs M => lvl_eq (fd := d19) rfl (sum_ok o hz hb hs)
theorem hM (n : Nat) : IsNumber (lv (n + 1)) 0 := fun h => lvl_eq (fd := d0) rfl (is_number_ok h)
theorem hR (n : Nat) : IsRow (lv (n + 1)) 1 := fun h => lvl_eq (fd := d1) rfl (is_row_ok h)
theorem hAm (n : Nat) : IsAmount (lv (n + 1)) 4 := fun h => lvl_eq (fd := d4) rfl (is_amount_ok h)
theorem hF (n : Nat) : IsFault (lv (n + 3)) 5 := fun ok hh hr hb M => lvl_eq (n := n + 2) (fd := d5) rfl (fault_ok (hS n) (hM (n + 1)) (hR (n + 1)) (hAm (n + 1)) ok hh hr hb)
theorem hWh (n : Nat) : IsWhole (lv (n + 1)) 16 := fun h => lvl_eq (fd := d16) rfl (whole_ok h)
theorem hFX (n : Nat) : IsFaultX (lv (n + 3)) 5 := fun ok hh hr ht => lvl_eq (n := n + 2) (fd := d5) rfl (faultX_ok (hS n) (hM (n + 1)) (hR (n + 1)) (hAm (n + 1)) ok hh hr ht)
theorem hLF (n : Nat) : IsFaultX (lv (n + 2)) 20 := fun ok hh hr ht => lvl_eq (n := n + 1) (fd := d20) rfl (lfault_ok (hL n) (hWh n) ok hh hr ht)
theorem hOd (n : Nat) : IsOdd (lv (n + 2)) 17 := fun hB h => lvl_ok (n := n + 1) (fd := d17) rfl (odd_ok (H.next (by decide) n) hB h)
theorem hBe : ∀ (k n : Nat), IsBent (lv (n + k + 4)) 18 k
  | 0, n => fun hB h g hr hb => lvl_ok (n := n + 3) (fd := d18) rfl (bent_ok (H.next (by decide) (n + 2)) (hOd (n + 1)) (fun j e => absurd e (by omega)) hB h g hr hb)
  | k + 1, n => fun hB h g hr hb => lvl_ok (n := n + (k + 1) + 3) (fd := d18) rfl (bent_ok (H.next (by decide) (n + (k + 1) + 2)) (hOd (n + (k + 1) + 1)) (fun j e => by cases e; exact hBe k n) hB h g hr hb)
theorem hNe (n : Nat) : IsNear (lv (n + 3)) 21 := fun ok hr st hB h => lvl_ok (n := n + 2) (fd := d21) rfl (near_ok (H.next (by decide) (n + 1)) (H.one (by decide) n) ok hr st hB h)
/-- the look at one thing -/
theorem look_ok {M : Mem} {y : Web} {d : D} (yo : y.Ok 8 20) (f : Fine M y.d d) {s : Env} (h3 : s[3]? = some (some y.d)) (hl : s.length = 9) {P : Fl → Mem → Prop} (k : ∀ z, P (.nx ((s.set 7 (some d)).set 8 (some (.str z)))) M) :
    Ok (evSs (lv 39) (.cons (.asg (.nm 8) (.repr (.lst (.cons (.var 3) (.cons (.var 7) .nil)))))
  (.cons (.ife (.or (.cmp .ne (.repr (.call 5 (.cons (.var 3) (.cons (.var 7) .nil)))) (.repr (.call 20 (.cons (.var 3) (.cons (.var 7) .nil))))) (.cmp .ne (.repr (.lst (.cons (.var 3) (.cons (.var 7) .nil)))) (.var 8)))
  (.cons (.ret (.bl false))
  .nil)
  .nil)
  .nil)) (s.set 7 (some d)) M) P := by
  obtain ⟨ht, z, hz⟩ := f
  have hm2 := yo.m2
  have hn2 := yo.n2
  have g3 : (s.set 7 (some d))[3]? = some (some y.d) := by rw [List.getElem?_set_ne (by decide)]; exact h3
  have g7 : (s.set 7 (some d))[7]? = some (some d) := List.getElem?_set_self (by omega)
  refine yA (xRp (xL (xC (xV g3) (xC (xV g7) xZ))) hz) ?_
  have k3 : ((s.set 7 (some d)).set 8 (some (.str z)))[3]? = some (some y.d) := by rw [List.getElem?_set_ne (by decide)]; exact g3
  have k7 : ((s.set 7 (some d)).set 8 (some (.str z)))[7]? = some (some d) := by rw [List.getElem?_set_ne (by decide)]; exact g7
  have k8 : ((s.set 7 (some d)).set 8 (some (.str z)))[8]? = some (some (.str z)) := List.getElem?_set_self (by simp [hl])
  obtain ⟨z2, hz2⟩ := (fault_gd (c := M.length) (X := []) (w := y) (d := d) (by omega) (by omega)).repr (by decide) (by decide) (by decide)
  have hz2' := hz2 M rfl
  rw [List.append_nil] at hz2'
  have e5 : (lv 39).call 5 [y.d, d] M = _ := hFX 36 yo (by decide) (by decide) ht
  have e20 : (lv 39).call 20 [y.d, d] M = _ := hLF 37 yo (by decide) (by decide) ht
  have c1 := xCm (xRp (xF (xC (xV k3) (xC (xV k7) xZ)) e5) hz2') (xRp (xF (xC (xV k3) (xC (xV k7) xZ)) e20) hz2') (cmpNeS z2 z2)
  have c2 := xCm (C := lv 39) (xRp (xL (xC (xV k3) (xC (xV k7) xZ))) hz) (xV k8) (cmpNeS z z)
  rw [decide_eq_true rfl] at c1 c2
  exact yF (xOF c1 c2) (Ok.nil (k z))
theorem law : ∀ ns : List Int, ns.length ≤ 63 → ∃ M, callF (ds.map (·.d)) glb 200 40 22 [.scr ns] [] = .ok (.v (.bl true)) M := by
  intro ns hns
  refine law_of ?_
  rw [callF_succ (n := 39) (fd := d22) rfl]
  refine runB_ok rfl ?_
  show Ok (evSs (lv 39) b22 [some (.scr ns), none, none, none, none, none, none, none, none] []) _
  unfold b22
  refine H.start hns rfl fun M0 hd0 => ?_
  simp only [List.set]
  refine Ok.cons (Ok.for (rng1_okE ?_))
  simp only [evE]
  refine .ret ⟨8, rfl, by decide, ?_⟩
  refine forL_ok (fun i s M => ∃ (X : Mem) (x2 x3 x4 x5 x6 x7 x8 : Option D), s = [some (.scr ns), some (.ref 3), x2, x3, x4, x5, x6, x7, x8] ∧ Dk (i * 4000000) X M) ?_ ?_ ⟨[], none, none, none, none, none, none, none, rfl, hd0⟩
  · rintro i d s M hd ⟨X, x2, x3, x4, x5, x6, x7, x8, rfl, h⟩
    obtain ⟨rfl, hi⟩ := rng_at (m := 8) hd
    simp only [asgT, List.set]
    refine H.webS (n := 34) (hs := 8) (rs := 20) (t := 3) (by decide) (by decide) (by decide) (by decide) (by decide) rfl (by omega) h fun y M1 yo h1 => ?_
    simp only [List.set]
    refine H.streamS (n := 34) (t := 4) (u := 3) (m := 9) (by decide) ⟨_, rfl, rfl⟩ rfl yo (by decide) (by decide) (by decide) (by decide) rfl rfl (by omega) h1 fun bs M2 st h2 => ?_
    simp only [List.set]
    have hz := yo.m2
    have hm1 := yo.m1
    have hn2 := yo.n2
    have hb := st.len
    -- things
    have q1 : (lv 39).call 6 _ M2 = _ := hN 38 yo (by decide) M2
    have em : opW .mul M2 (.v (.tup [.int 0])) (.v (.int (y.ws.length : Nat))) = some (.v (.tup ((List.replicate y.ws.length 0).map .int))) := by
      rw [mulT1 ⟨by omega, by omega⟩, Int.toNat_natCast, List.map_replicate]
    have qo : Ok ((lv 39).call 17 [.ref 3] M2) fun w M' => Out [] X (i * 4000000 + 1000001 + 300001 + 1) 1 3 20 w M' := hOd 37 (Z := []) (X := X) (by omega) h2
    refine Ok.cons (Ok.asg (Ok.lst (Ok.esC (xV rfl) (Ok.esC (xF (xC (xV rfl) xZ) q1) (Ok.esC (xOp (xT (xC xN xZ)) (xLn (xIx (xV rfl) xN (web0 y)) (lenW_ways y)) em) (Ok.es1 (Ok.call ?_)))))))
    rw [xC (xV rfl) xZ]
    refine .ret (qo.mono fun w M3 ho => ?_)
    obtain ⟨Y1, h3, g3, _⟩ := ho.put
    generalize (Ev.put w M3).1 = d3 at g3
    generalize (Ev.put w M3).2 = M3' at h3
    simp only [Ev.put, List.set]
    rw [List.nil_append] at h3
    have h4 := h3.push (.lst [.tup (bs.map .int), .tup ((List.replicate y.ws.length 0).map .int), .tup ((List.replicate y.ws.length 0).map .int), d3])
    have hl3 := h3.len
    rw [hl3]
    have t0 : ThI (X ++ Y1) [] [.tup (bs.map .int), .tup ((List.replicate y.ws.length 0).map .int), .tup ((List.replicate y.ws.length 0).map .int), d3] := by
      intro d hd
      have z0 : Gd (4 + ((X ++ Y1).length + 1)) [] 0 1 1000 (.tup ((List.replicate y.ws.length (0 : Int)).map .int)) := ints_gd (fun i hi => by rw [List.eq_of_mem_replicate hi]; decide) (by rw [List.length_replicate]; omega)
      simp only [List.mem_cons, List.not_mem_nil, or_false] at hd
      rcases hd with rfl | rfl | rfl | rfl
      · exact .inr ((strm_gd yo st).mono (by decide) (by decide) (by decide))
      · exact .inr (z0.mono (by decide) (by decide) (by decide))
      · exact .inr (z0.mono (by decide) (by decide) (by decide))
      · exact .inl (g3.mono (by decide) (by decide) (by decide))
    -- ten times
    refine Ok.cons (Ok.for (rng1_okE ?_))
    simp only [evE]
    refine .ret ⟨10, rfl, by decide, ?_⟩
    generalize hZ : X ++ Y1 = Z at h4 t0
    refine forL_ok (fun j s M => ∃ (l : List D) (X2 : Mem) (x6 : Option D), s = [some (.scr ns), some (.ref 3), some (.int (i : Nat)), some y.d, some (.tup (bs.map .int)), some (.ref (4 + Z.length)), x6, x7, x8] ∧ l.length ≤ 4 + 2 * j ∧ ThI Z X2 l ∧ Dk (i * 4000000 + 2000000 + 100 * j) (Z ++ .lst l :: X2) M) ?_ ?_ ⟨_, [], x6, rfl, Nat.le_refl _, t0, h4.mono (by omega)⟩
    · rintro j d s M hd ⟨l, X2, x6, rfl, hl, th, h5⟩
      obtain ⟨rfl, hj⟩ := rng_at (m := 10) hd
      simp only [asgT, List.set]
      refine app_mid (q := 5) rfl h5 (by omega) (Ok.call ?_)
      rw [xC (xV rfl) (xC (xV rfl) (xC (xV rfl) xZ))]
      refine .ret ((hNe 36 yo (by decide) st (by omega) h5).mono fun w M4 ⟨cs, e, hcl, hcb, h6⟩ => ?_)
      subst e
      refine ⟨_, X2, h6, fun M5 h7 => ?_⟩
      simp only [Ev.put] at h7
      have t1 := th.add (.inr ((ints_gd (c := 4 + (Z.length + 1)) (X := X2) hcb (by omega)).mono (by decide) (by decide) (by decide)))
      refine app_mid (q := 5) rfl h7 (by rw [List.length_append, List.length_singleton]; omega) (Ok.call ?_)
      rw [xC (xV rfl) (xC (xV rfl) (xC xN xZ))]
      have h7' : Dk (i * 4000000 + 2000000 + 100 * j + 10) ((Z ++ [.lst (l ++ [.tup (cs.map .int)])]) ++ X2) M5 := by rw [List.append_assoc]; exact h7
      refine .ret ((hBe 1 34 (by omega) h7' (strm_gd yo st) (by decide) (by decide)).mono fun w M6 ho => ?_)
      obtain ⟨Y2, h8, g8, _⟩ := ho.put
      rw [List.append_assoc] at h8
      rw [List.length_append] at g8
      refine ⟨_, X2 ++ Y2, h8, fun M7 h9 => Ok.nil ⟨srcNil _, _, X2 ++ Y2, _, rfl, ?_, (t1.up Y2).add (.inr (g8.mono (by decide) (by decide) (by decide))), h9.mono (by omega)⟩⟩
      simp only [List.length_append, List.length_singleton]; omega
    · rintro s M ⟨l, X2, x6, rfl, hl, th, h5⟩
      have h6 := th.fine (e := y.d) (Web.pr yo (by decide) (by decide)) h5
      have g0 : M[4 + Z.length]? = some (.lst l) := h5.mid
      refine Ok.cons (Ok.for (Ok.of (itL g0 (xV rfl)) ?_))
      refine forL_ok (fun j s M' => M' = M ∧ ∃ (x7 x8 : Option D), s = [some (.scr ns), some (.ref 3), some (.int (i : Nat)), some y.d, some (.tup (bs.map .int)), some (.ref (4 + Z.length)), x6, x7, x8]) ?_ ?_ ⟨rfl, x7, x8, rfl⟩
      · rintro j d s M' hd ⟨rfl, x7, x8, rfl⟩
        refine look_ok yo (h6 d (List.mem_of_getElem? hd)) rfl rfl fun z => ⟨src1 g0, rfl, some d, some (.str z), rfl⟩
      · rintro s M' ⟨rfl, x7, x8, rfl⟩
        have qF : (lv 39).call 5 [y.d, .tup (bs.map .int)] M' = _ := hF 36 yo (by decide) (by decide) hb M'
        rw [st.fault] at qF
        refine yF (xCm (xF (xC (xV rfl) (xC (xV rfl) xZ)) qF) xO rfl) (Ok.nil ⟨srcNil _, Z ++ .lst l :: X2, _, _, _, _, _, _, _, rfl, h5.mono ?_⟩)
        have hr : (rngD 0 ((10 : Nat) : Int)).length = 10 := by decide
        omega
  · rintro s M ⟨X, x2, x3, x4, x5, x6, x7, x8, rfl, h⟩
    exact fin_true
section
variable {l : PySem.W.OpenLaw} {w : World} {K : PySem.W.Frag} {h : Heap} {mg : Str → Option Value} {fa : Addr}
  {f0 : Addr} {od0 an0 : Option Addr} {sl0 : Array (Option Value)} {oc0 kV0 dc0 pm0 cd0 ct0 : Value} {f1 : Addr} {od1 an1 : Option Addr} {sl1 : Array (Option Value)} {oc1 kV1 dc1 pm1 cd1 ct1 : Value} {f2 : Addr} {od2 an2 : Option Addr} {sl2 : Array (Option Value)} {oc2 kV2 dc2 pm2 cd2 ct2 : Value} {f3 : Addr} {od3 an3 : Option Addr} {sl3 : Array (Option Value)} {oc3 kV3 dc3 pm3 cd3 ct3 : Value} {f4 : Addr} {od4 an4 : Option Addr} {sl4 : Array (Option Value)} {oc4 kV4 dc4 pm4 cd4 ct4 : Value} {f5 : Addr} {od5 an5 : Option Addr} {sl5 : Array (Option Value)} {oc5 kV5 dc5 pm5 cd5 ct5 : Value} {f6 : Addr} {od6 an6 : Option Addr} {sl6 : Array (Option Value)} {oc6 kV6 dc6 pm6 cd6 ct6 : Value} {f7 : Addr} {od7 an7 : Option Addr} {sl7 : Array (Option Value)} {oc7 kV7 dc7 pm7 cd7 ct7 : Value} {f8 : Addr} {od8 an8 : Option Addr} {sl8 : Array (Option Value)} {oc8 kV8 dc8 pm8 cd8 ct8 : Value} {f9 : Addr} {od9 an9 : Option Addr} {sl9 : Array (Option Value)} {oc9 kV9 dc9 pm9 cd9 ct9 : Value} {f10 : Addr} {od10 an10 : Option Addr} {sl10 : Array (Option Value)} {oc10 kV10 dc10 pm10 cd10 ct10 : Value} {f11 : Addr} {od11 an11 : Option Addr} {sl11 : Array (Option Value)} {oc11 kV11 dc11 pm11 cd11 ct11 : Value} {f12 : Addr} {od12 an12 : Option Addr} {sl12 : Array (Option Value)} {oc12 kV12 dc12 pm12 cd12 ct12 : Value} {f13 : Addr} {od13 an13 : Option Addr} {sl13 : Array (Option Value)} {oc13 kV13 dc13 pm13 cd13 ct13 : Value} {f14 : Addr} {od14 an14 : Option Addr} {sl14 : Array (Option Value)} {oc14 kV14 dc14 pm14 cd14 ct14 : Value} {f15 : Addr} {od15 an15 : Option Addr} {sl15 : Array (Option Value)} {oc15 kV15 dc15 pm15 cd15 ct15 : Value} {f16 : Addr} {od16 an16 : Option Addr} {sl16 : Array (Option Value)} {oc16 kV16 dc16 pm16 cd16 ct16 : Value} {f17 : Addr} {od17 an17 : Option Addr} {sl17 : Array (Option Value)} {oc17 kV17 dc17 pm17 cd17 ct17 : Value} {f18 : Addr} {od18 an18 : Option Addr} {sl18 : Array (Option Value)} {oc18 kV18 dc18 pm18 cd18 ct18 : Value} {f19 : Addr} {od19 an19 : Option Addr} {sl19 : Array (Option Value)} {oc19 kV19 dc19 pm19 cd19 ct19 : Value} {f20 : Addr} {od20 an20 : Option Addr} {sl20 : Array (Option Value)} {oc20 kV20 dc20 pm20 cd20 ct20 : Value} {f21 : Addr} {od21 an21 : Option Addr} {sl21 : Array (Option Value)} {oc21 kV21 dc21 pm21 cd21 ct21 : Value} {f22 : Addr} {od22 an22 : Option Addr} {sl22 : Array (Option Value)} {oc22 kV22 dc22 pm22 cd22 ct22 : Value}
theorem all_mk (X : K.In h) (G : h.Ns mainGlobals mg) (hfa : mg "law" = some (.ref fa))
    (a0 : PySem.W.nsIn K mainGlobals "is_number" = some (some (.ref f0)))
    (l0 : K.lookup f0 = some ⟨oc0, od0, .func (PySem.W.fnOf "is_number" "is_number" (defArgs r0.st) (defBody r0.st) (defScope r0.st) .none kV0 dc0 pm0 an0 cd0 ct0), sl0⟩)
    (c0 : PySem.W.codeIn K cd0 "is_number" = true) (k0 : PySem.W.keepIn K (.ref f0) = true)
    (a1 : PySem.W.nsIn K mainGlobals "is_row" = some (some (.ref f1)))
    (l1 : K.lookup f1 = some ⟨oc1, od1, .func (PySem.W.fnOf "is_row" "is_row" (defArgs r1.st) (defBody r1.st) (defScope r1.st) .none kV1 dc1 pm1 an1 cd1 ct1), sl1⟩)
    (c1 : PySem.W.codeIn K cd1 "is_row" = true) (k1 : PySem.W.keepIn K (.ref f1) = true)
    (a2 : PySem.W.nsIn K mainGlobals "houses_of" = some (some (.ref f2)))
    (l2 : K.lookup f2 = some ⟨oc2, od2, .func (PySem.W.fnOf "houses_of" "houses_of" (defArgs r2.st) (defBody r2.st) (defScope r2.st) .none kV2 dc2 pm2 an2 cd2 ct2), sl2⟩)
    (c2 : PySem.W.codeIn K cd2 "houses_of" = true) (k2 : PySem.W.keepIn K (.ref f2) = true)
    (a3 : PySem.W.nsIn K mainGlobals "sums" = some (some (.ref f3)))
    (l3 : K.lookup f3 = some ⟨oc3, od3, .func (PySem.W.fnOf "sums" "sums" (defArgs r3.st) (defBody r3.st) (defScope r3.st) .none kV3 dc3 pm3 an3 cd3 ct3), sl3⟩)
    (c3 : PySem.W.codeIn K cd3 "sums" = true) (k3 : PySem.W.keepIn K (.ref f3) = true)
    (a4 : PySem.W.nsIn K mainGlobals "is_amount" = some (some (.ref f4)))
    (l4 : K.lookup f4 = some ⟨oc4, od4, .func (PySem.W.fnOf "is_amount" "is_amount" (defArgs r4.st) (defBody r4.st) (defScope r4.st) .none kV4 dc4 pm4 an4 cd4 ct4), sl4⟩)
    (c4 : PySem.W.codeIn K cd4 "is_amount" = true) (k4 : PySem.W.keepIn K (.ref f4) = true)
    (a5 : PySem.W.nsIn K mainGlobals "streamfault" = some (some (.ref f5)))
    (l5 : K.lookup f5 = some ⟨oc5, od5, .func (PySem.W.fnOf "streamfault" "streamfault" (defArgs r5.st) (defBody r5.st) (defScope r5.st) .none kV5 dc5 pm5 an5 cd5 ct5), sl5⟩)
    (c5 : PySem.W.codeIn K cd5 "streamfault" = true) (k5 : PySem.W.keepIn K (.ref f5) = true)
    (a6 : PySem.W.nsIn K mainGlobals "nothing" = some (some (.ref f6)))
    (l6 : K.lookup f6 = some ⟨oc6, od6, .func (PySem.W.fnOf "nothing" "nothing" (defArgs r6.st) (defBody r6.st) (defScope r6.st) .none kV6 dc6 pm6 an6 cd6 ct6), sl6⟩)
    (c6 : PySem.W.codeIn K cd6 "nothing" = true) (k6 : PySem.W.keepIn K (.ref f6) = true)
    (a7 : PySem.W.nsIn K mainGlobals "_law_deck" = some (some (.ref f7)))
    (l7 : K.lookup f7 = some ⟨oc7, od7, .func (PySem.W.fnOf "_law_deck" "_law_deck" (defArgs r7.st) (defBody r7.st) (defScope r7.st) .none kV7 dc7 pm7 an7 cd7 ct7), sl7⟩)
    (c7 : PySem.W.codeIn K cd7 "_law_deck" = true) (k7 : PySem.W.keepIn K (.ref f7) = true)
    (a8 : PySem.W.nsIn K mainGlobals "_law_next" = some (some (.ref f8)))
    (l8 : K.lookup f8 = some ⟨oc8, od8, .func (PySem.W.fnOf "_law_next" "_law_next" (defArgs r8.st) (defBody r8.st) (defScope r8.st) .none kV8 dc8 pm8 an8 cd8 ct8), sl8⟩)
    (c8 : PySem.W.codeIn K cd8 "_law_next" = true) (k8 : PySem.W.keepIn K (.ref f8) = true)
    (a9 : PySem.W.nsIn K mainGlobals "_law_one" = some (some (.ref f9)))
    (l9 : K.lookup f9 = some ⟨oc9, od9, .func (PySem.W.fnOf "_law_one" "_law_one" (defArgs r9.st) (defBody r9.st) (defScope r9.st) .none kV9 dc9 pm9 an9 cd9 ct9), sl9⟩)
    (c9 : PySem.W.codeIn K cd9 "_law_one" = true) (k9 : PySem.W.keepIn K (.ref f9) = true)
    (a10 : PySem.W.nsIn K mainGlobals "_law_room" = some (some (.ref f10)))
    (l10 : K.lookup f10 = some ⟨oc10, od10, .func (PySem.W.fnOf "_law_room" "_law_room" (defArgs r10.st) (defBody r10.st) (defScope r10.st) .none kV10 dc10 pm10 an10 cd10 ct10), sl10⟩)
    (c10 : PySem.W.codeIn K cd10 "_law_room" = true) (k10 : PySem.W.keepIn K (.ref f10) = true)
    (a11 : PySem.W.nsIn K mainGlobals "_law_order" = some (some (.ref f11)))
    (l11 : K.lookup f11 = some ⟨oc11, od11, .func (PySem.W.fnOf "_law_order" "_law_order" (defArgs r11.st) (defBody r11.st) (defScope r11.st) .none kV11 dc11 pm11 an11 cd11 ct11), sl11⟩)
    (c11 : PySem.W.codeIn K cd11 "_law_order" = true) (k11 : PySem.W.keepIn K (.ref f11) = true)
    (a12 : PySem.W.nsIn K mainGlobals "_law_road" = some (some (.ref f12)))
    (l12 : K.lookup f12 = some ⟨oc12, od12, .func (PySem.W.fnOf "_law_road" "_law_road" (defArgs r12.st) (defBody r12.st) (defScope r12.st) .none kV12 dc12 pm12 an12 cd12 ct12), sl12⟩)
    (c12 : PySem.W.codeIn K cd12 "_law_road" = true) (k12 : PySem.W.keepIn K (.ref f12) = true)
    (a13 : PySem.W.nsIn K mainGlobals "_law_web" = some (some (.ref f13)))
    (l13 : K.lookup f13 = some ⟨oc13, od13, .func (PySem.W.fnOf "_law_web" "_law_web" (defArgs r13.st) (defBody r13.st) (defScope r13.st) .none kV13 dc13 pm13 an13 cd13 ct13), sl13⟩)
    (c13 : PySem.W.codeIn K cd13 "_law_web" = true) (k13 : PySem.W.keepIn K (.ref f13) = true)
    (a14 : PySem.W.nsIn K mainGlobals "_law_round" = some (some (.ref f14)))
    (l14 : K.lookup f14 = some ⟨oc14, od14, .func (PySem.W.fnOf "_law_round" "_law_round" (defArgs r14.st) (defBody r14.st) (defScope r14.st) .none kV14 dc14 pm14 an14 cd14 ct14), sl14⟩)
    (c14 : PySem.W.codeIn K cd14 "_law_round" = true) (k14 : PySem.W.keepIn K (.ref f14) = true)
    (a15 : PySem.W.nsIn K mainGlobals "_law_stream" = some (some (.ref f15)))
    (l15 : K.lookup f15 = some ⟨oc15, od15, .func (PySem.W.fnOf "_law_stream" "_law_stream" (defArgs r15.st) (defBody r15.st) (defScope r15.st) .none kV15 dc15 pm15 an15 cd15 ct15), sl15⟩)
    (c15 : PySem.W.codeIn K cd15 "_law_stream" = true) (k15 : PySem.W.keepIn K (.ref f15) = true)
    (a16 : PySem.W.nsIn K mainGlobals "_law_whole" = some (some (.ref f16)))
    (l16 : K.lookup f16 = some ⟨oc16, od16, .func (PySem.W.fnOf "_law_whole" "_law_whole" (defArgs r16.st) (defBody r16.st) (defScope r16.st) .none kV16 dc16 pm16 an16 cd16 ct16), sl16⟩)
    (c16 : PySem.W.codeIn K cd16 "_law_whole" = true) (k16 : PySem.W.keepIn K (.ref f16) = true)
    (a17 : PySem.W.nsIn K mainGlobals "_law_odd" = some (some (.ref f17)))
    (l17 : K.lookup f17 = some ⟨oc17, od17, .func (PySem.W.fnOf "_law_odd" "_law_odd" (defArgs r17.st) (defBody r17.st) (defScope r17.st) .none kV17 dc17 pm17 an17 cd17 ct17), sl17⟩)
    (c17 : PySem.W.codeIn K cd17 "_law_odd" = true) (k17 : PySem.W.keepIn K (.ref f17) = true)
    (a18 : PySem.W.nsIn K mainGlobals "_law_bent" = some (some (.ref f18)))
    (l18 : K.lookup f18 = some ⟨oc18, od18, .func (PySem.W.fnOf "_law_bent" "_law_bent" (defArgs r18.st) (defBody r18.st) (defScope r18.st) .none kV18 dc18 pm18 an18 cd18 ct18), sl18⟩)
    (c18 : PySem.W.codeIn K cd18 "_law_bent" = true) (k18 : PySem.W.keepIn K (.ref f18) = true)
    (a19 : PySem.W.nsIn K mainGlobals "_law_sum" = some (some (.ref f19)))
    (l19 : K.lookup f19 = some ⟨oc19, od19, .func (PySem.W.fnOf "_law_sum" "_law_sum" (defArgs r19.st) (defBody r19.st) (defScope r19.st) .none kV19 dc19 pm19 an19 cd19 ct19), sl19⟩)
    (c19 : PySem.W.codeIn K cd19 "_law_sum" = true) (k19 : PySem.W.keepIn K (.ref f19) = true)
    (a20 : PySem.W.nsIn K mainGlobals "_law_stream_fault" = some (some (.ref f20)))
    (l20 : K.lookup f20 = some ⟨oc20, od20, .func (PySem.W.fnOf "_law_stream_fault" "_law_stream_fault" (defArgs r20.st) (defBody r20.st) (defScope r20.st) .none kV20 dc20 pm20 an20 cd20 ct20), sl20⟩)
    (c20 : PySem.W.codeIn K cd20 "_law_stream_fault" = true) (k20 : PySem.W.keepIn K (.ref f20) = true)
    (a21 : PySem.W.nsIn K mainGlobals "_law_near" = some (some (.ref f21)))
    (l21 : K.lookup f21 = some ⟨oc21, od21, .func (PySem.W.fnOf "_law_near" "_law_near" (defArgs r21.st) (defBody r21.st) (defScope r21.st) .none kV21 dc21 pm21 an21 cd21 ct21), sl21⟩)
    (c21 : PySem.W.codeIn K cd21 "_law_near" = true) (k21 : PySem.W.keepIn K (.ref f21) = true)
    (a22 : PySem.W.nsIn K mainGlobals "law" = some (some (.ref f22)))
    (l22 : K.lookup f22 = some ⟨oc22, od22, .func (PySem.W.fnOf "law" "law" (defArgs r22.st) (defBody r22.st) (defScope r22.st) .none kV22 dc22 pm22 an22 cd22 ct22), sl22⟩)
    (c22 : PySem.W.codeIn K cd22 "law" = true) (k22 : PySem.W.keepIn K (.ref f22) = true)
    (z0 : PySem.W.nsIn K mainGlobals "abs" = some none)
    (z1 : PySem.W.nsIn K mainGlobals "all" = some none)
    (z2 : PySem.W.nsIn K mainGlobals "bool" = some none)
    (z3 : PySem.W.nsIn K mainGlobals "enumerate" = some none)
    (z4 : PySem.W.nsIn K mainGlobals "int" = some none)
    (z5 : PySem.W.nsIn K mainGlobals "isinstance" = some none)
    (z6 : PySem.W.nsIn K mainGlobals "len" = some none)
    (z7 : PySem.W.nsIn K mainGlobals "list" = some none)
    (z8 : PySem.W.nsIn K mainGlobals "min" = some none)
    (z9 : PySem.W.nsIn K mainGlobals "range" = some none)
    (z10 : PySem.W.nsIn K mainGlobals "repr" = some none)
    (z11 : PySem.W.nsIn K mainGlobals "sum" = some none)
    (z12 : PySem.W.nsIn K mainGlobals "tuple" = some none)
    (z13 : PySem.W.nsIn K mainGlobals "zip" = some none)
    : Top K mg ds cn bn glb ∧ ∃ fd : FuncData, Fun K r22.x r22.x r22.st fa fd ∧ ∀ (s : Shared) (u : Value), BindsTo s fd ⟨[u], []⟩ [("_law_script", u)] := by
  have e := hfa.symm.trans (PySem.W.mg_of X G a22)
  cases e
  have F0 := fun_mk (x := "is_number") (st := r0.st) l0 c0 k0
  have B0 := F0.binds (ps := ["thing", "low", "high"]) fun _ _ _ _ _ _ us hl => match us, hl with | [_, _, _], _ => rfl
  have F1 := fun_mk (x := "is_row") (st := r1.st) l1 c1 k1
  have B1 := F1.binds (ps := ["thing", "least", "most"]) fun _ _ _ _ _ _ us hl => match us, hl with | [_, _, _], _ => rfl
  have F2 := fun_mk (x := "houses_of") (st := r2.st) l2 c2 k2
  have B2 := F2.binds (ps := ["web"]) fun _ _ _ _ _ _ us hl => match us, hl with | [_], _ => rfl
  have F3 := fun_mk (x := "sums") (st := r3.st) l3 c3 k3
  have B3 := F3.binds (ps := ["web", "stream", "side"]) fun _ _ _ _ _ _ us hl => match us, hl with | [_, _, _], _ => rfl
  have F4 := fun_mk (x := "is_amount") (st := r4.st) l4 c4 k4
  have B4 := F4.binds (ps := ["thing"]) fun _ _ _ _ _ _ us hl => match us, hl with | [_], _ => rfl
  have F5 := fun_mk (x := "streamfault") (st := r5.st) l5 c5 k5
  have B5 := F5.binds (ps := ["web", "thing"]) fun _ _ _ _ _ _ us hl => match us, hl with | [_, _], _ => rfl
  have F6 := fun_mk (x := "nothing") (st := r6.st) l6 c6 k6
  have B6 := F6.binds (ps := ["web"]) fun _ _ _ _ _ _ us hl => match us, hl with | [_], _ => rfl
  have F7 := fun_mk (x := "_law_deck") (st := r7.st) l7 c7 k7
  have B7 := F7.binds (ps := ["_law_script"]) fun _ _ _ _ _ _ us hl => match us, hl with | [_], _ => rfl
  have F8 := fun_mk (x := "_law_next") (st := r8.st) l8 c8 k8
  have B8 := F8.binds (ps := ["_law_deck_here", "_law_many"]) fun _ _ _ _ _ _ us hl => match us, hl with | [_, _], _ => rfl
  have F9 := fun_mk (x := "_law_one") (st := r9.st) l9 c9 k9
  have B9 := F9.binds (ps := ["_law_deck_here", "_law_some"]) fun _ _ _ _ _ _ us hl => match us, hl with | [_, _], _ => rfl
  have F10 := fun_mk (x := "_law_room") (st := r10.st) l10 c10 k10
  have B10 := F10.binds (ps := ["_law_deck_here", "_law_far"]) fun _ _ _ _ _ _ us hl => match us, hl with | [_, _], _ => rfl
  have F11 := fun_mk (x := "_law_order") (st := r11.st) l11 c11 k11
  have B11 := F11.binds (ps := ["_law_deck_here", "_law_numbers"]) fun _ _ _ _ _ _ us hl => match us, hl with | [_, _], _ => rfl
  have F12 := fun_mk (x := "_law_road") (st := r12.st) l12 c12 k12
  have B12 := F12.binds (ps := ["_law_deck_here", "_law_houses", "_law_far"]) fun _ _ _ _ _ _ us hl => match us, hl with | [_, _, _], _ => rfl
  have F13 := fun_mk (x := "_law_web") (st := r13.st) l13 c13 k13
  have B13 := F13.binds (ps := ["_law_deck_here", "_law_houses", "_law_roads", "_law_far"]) fun _ _ _ _ _ _ us hl => match us, hl with | [_, _, _, _], _ => rfl
  have F14 := fun_mk (x := "_law_round") (st := r14.st) l14 c14 k14
  have B14 := F14.binds (ps := ["_law_deck_here", "_law_web_here", "_law_bears"]) fun _ _ _ _ _ _ us hl => match us, hl with | [_, _, _], _ => rfl
  have F15 := fun_mk (x := "_law_stream") (st := r15.st) l15 c15 k15
  have B15 := F15.binds (ps := ["_law_deck_here", "_law_web_here", "_law_several"]) fun _ _ _ _ _ _ us hl => match us, hl with | [_, _, _], _ => rfl
  have F16 := fun_mk (x := "_law_whole") (st := r16.st) l16 c16 k16
  have B16 := F16.binds (ps := ["_law_thing"]) fun _ _ _ _ _ _ us hl => match us, hl with | [_], _ => rfl
  have F17 := fun_mk (x := "_law_odd") (st := r17.st) l17 c17 k17
  have B17 := F17.binds (ps := ["_law_deck_here"]) fun _ _ _ _ _ _ us hl => match us, hl with | [_], _ => rfl
  have F18 := fun_mk (x := "_law_bent") (st := r18.st) l18 c18 k18
  have B18 := F18.binds (ps := ["_law_deck_here", "_law_thing", "_law_deep"]) fun _ _ _ _ _ _ us hl => match us, hl with | [_, _, _], _ => rfl
  have F19 := fun_mk (x := "_law_sum") (st := r19.st) l19 c19 k19
  have B19 := F19.binds (ps := ["_law_web_here", "_law_bears", "_law_side", "_law_house"]) fun _ _ _ _ _ _ us hl => match us, hl with | [_, _, _, _], _ => rfl
  have F20 := fun_mk (x := "_law_stream_fault") (st := r20.st) l20 c20 k20
  have B20 := F20.binds (ps := ["_law_web_here", "_law_thing"]) fun _ _ _ _ _ _ us hl => match us, hl with | [_, _], _ => rfl
  have F21 := fun_mk (x := "_law_near") (st := r21.st) l21 c21 k21
  have B21 := F21.binds (ps := ["_law_deck_here", "_law_web_here", "_law_stream_here"]) fun _ _ _ _ _ _ us hl => match us, hl with | [_, _, _], _ => rfl
  have F22 := fun_mk (x := "law") (st := r22.st) l22 c22 k22
  have B22 := F22.binds (ps := ["_law_script"]) fun _ _ _ _ _ _ us hl => match us, hl with | [_], _ => rfl
  refine ⟨⟨each_of ⟨⟨_, _, F0, PySem.W.mg_of X G a0, B0⟩, ⟨_, _, F1, PySem.W.mg_of X G a1, B1⟩, ⟨_, _, F2, PySem.W.mg_of X G a2, B2⟩, ⟨_, _, F3, PySem.W.mg_of X G a3, B3⟩, ⟨_, _, F4, PySem.W.mg_of X G a4, B4⟩, ⟨_, _, F5, PySem.W.mg_of X G a5, B5⟩, ⟨_, _, F6, PySem.W.mg_of X G a6, B6⟩, ⟨_, _, F7, PySem.W.mg_of X G a7, B7⟩, ⟨_, _, F8, PySem.W.mg_of X G a8, B8⟩, ⟨_, _, F9, PySem.W.mg_of X G a9, B9⟩, ⟨_, _, F10, PySem.W.mg_of X G a10, B10⟩, ⟨_, _, F11, PySem.W.mg_of X G a11, B11⟩, ⟨_, _, F12, PySem.W.mg_of X G a12, B12⟩, ⟨_, _, F13, PySem.W.mg_of X G a13, B13⟩, ⟨_, _, F14, PySem.W.mg_of X G a14, B14⟩, ⟨_, _, F15, PySem.W.mg_of X G a15, B15⟩, ⟨_, _, F16, PySem.W.mg_of X G a16, B16⟩, ⟨_, _, F17, PySem.W.mg_of X G a17, B17⟩, ⟨_, _, F18, PySem.W.mg_of X G a18, B18⟩, ⟨_, _, F19, PySem.W.mg_of X G a19, B19⟩, ⟨_, _, F20, PySem.W.mg_of X G a20, B20⟩, ⟨_, _, F21, PySem.W.mg_of X G a21, B21⟩, ⟨_, _, F22, PySem.W.mg_of X G a22, B22⟩, trivial⟩, ball_of ⟨PySem.W.mg_none_of X G z0, PySem.W.mg_none_of X G z1, PySem.W.mg_none_of X G z2, PySem.W.mg_none_of X G z3, PySem.W.mg_none_of X G z4, PySem.W.mg_none_of X G z5, PySem.W.mg_none_of X G z6, PySem.W.mg_none_of X G z7, PySem.W.mg_none_of X G z8, PySem.W.mg_none_of X G z9, PySem.W.mg_none_of X G z10, PySem.W.mg_none_of X G z11, PySem.W.mg_none_of X G z12, PySem.W.mg_none_of X G z13, trivial⟩, ?_⟩, _, F22, fun s v => .of_eq rfl⟩
  exact fun i x h => by simp [cn] at h
end
end Ev.K03
open PySem PySem.W PyProof.Rows
set_option maxHeartbeats 0 in
theorem PySem.Challenge.cw_unturned_k03_streams_judged_holds : PySem.Challenge.rw_unturned_k03_streams_judged.Holds := by
  w_on; o_law; k_head; (case hw => w_witness2)
  k_fill
  refine Ev.walk_G (l := PySem.Challenge.rw_unturned_k03_streams_judged) (m := 63) (k := 40) (x := "_law_script") (ds := Ev.K03.ds) (cn := Ev.K03.cn) (bn := Ev.K03.bn) (glb := Ev.K03.glb) (fuel := 200) (j := 22) (r := Ev.K03.r22) rfl (by decide) rfl ⟨rfl, by decide, by decide⟩ (fun w h Y => PySem.W.kIn_of Y) rfl rfl Ev.K03.chk ?F Ev.K03.law
  case F =>
    intro w mg fa h KX G hmg
    refine' Ev.K03.all_mk KX G hmg ?a0 ?l0 ?c0 ?k0 ?a1 ?l1 ?c1 ?k1 ?a2 ?l2 ?c2 ?k2 ?a3 ?l3 ?c3 ?k3 ?a4 ?l4 ?c4 ?k4 ?a5 ?l5 ?c5 ?k5 ?a6 ?l6 ?c6 ?k6 ?a7 ?l7 ?c7 ?k7 ?a8 ?l8 ?c8 ?k8 ?a9 ?l9 ?c9 ?k9 ?a10 ?l10 ?c10 ?k10 ?a11 ?l11 ?c11 ?k11 ?a12 ?l12 ?c12 ?k12 ?a13 ?l13 ?c13 ?k13 ?a14 ?l14 ?c14 ?k14 ?a15 ?l15 ?c15 ?k15 ?a16 ?l16 ?c16 ?k16 ?a17 ?l17 ?c17 ?k17 ?a18 ?l18 ?c18 ?k18 ?a19 ?l19 ?c19 ?k19 ?a20 ?l20 ?c20 ?k20 ?a21 ?l21 ?c21 ?k21 ?a22 ?l22 ?c22 ?k22 ?z0 ?z1 ?z2 ?z3 ?z4 ?z5 ?z6 ?z7 ?z8 ?z9 ?z10 ?z11 ?z12 ?z13
    (case a0 => k_is); (case l0 => k_is); (case c0 => k_is); (case k0 => k_is); (case a1 => k_is); (case l1 => k_is); (case c1 => k_is); (case k1 => k_is); (case a2 => k_is); (case l2 => k_is); (case c2 => k_is); (case k2 => k_is); (case a3 => k_is); (case l3 => k_is); (case c3 => k_is); (case k3 => k_is); (case a4 => k_is); (case l4 => k_is); (case c4 => k_is); (case k4 => k_is); (case a5 => k_is); (case l5 => k_is); (case c5 => k_is); (case k5 => k_is); (case a6 => k_is); (case l6 => k_is); (case c6 => k_is); (case k6 => k_is); (case a7 => k_is); (case l7 => k_is); (case c7 => k_is); (case k7 => k_is); (case a8 => k_is); (case l8 => k_is); (case c8 => k_is); (case k8 => k_is); (case a9 => k_is); (case l9 => k_is); (case c9 => k_is); (case k9 => k_is); (case a10 => k_is); (case l10 => k_is); (case c10 => k_is); (case k10 => k_is); (case a11 => k_is); (case l11 => k_is); (case c11 => k_is); (case k11 => k_is); (case a12 => k_is); (case l12 => k_is); (case c12 => k_is); (case k12 => k_is); (case a13 => k_is); (case l13 => k_is); (case c13 => k_is); (case k13 => k_is); (case a14 => k_is); (case l14 => k_is); (case c14 => k_is); (case k14 => k_is); (case a15 => k_is); (case l15 => k_is); (case c15 => k_is); (case k15 => k_is); (case a16 => k_is); (case l16 => k_is); (case c16 => k_is); (case k16 => k_is); (case a17 => k_is); (case l17 => k_is); (case c17 => k_is); (case k17 => k_is); (case a18 => k_is); (case l18 => k_is); (case c18 => k_is); (case k18 => k_is); (case a19 => k_is); (case l19 => k_is); (case c19 => k_is); (case k19 => k_is); (case a20 => k_is); (case l20 => k_is); (case c20 => k_is); (case k20 => k_is); (case a21 => k_is); (case l21 => k_is); (case c21 => k_is); (case k21 => k_is); (case a22 => k_is); (case l22 => k_is); (case c22 => k_is); (case k22 => k_is); (case z0 => k_is); (case z1 => k_is); (case z2 => k_is); (case z3 => k_is); (case z4 => k_is); (case z5 => k_is); (case z6 => k_is); (case z7 => k_is); (case z8 => k_is); (case z9 => k_is); (case z10 => k_is); (case z11 => k_is); (case z12 => k_is); (case z13 => k_is)
