import PyProof.Rows.All
import PySem.Sem
import HandS.ForMost
import HandS.ForExc
import HandS.Evl
import HandS.Lambda
import HandS.HeadHook4
import HandS.Strs
import HandS.IsInst
import HandS.More
import HandS.Wide
import HandS.Style
import HandS.Flow
import HandS.TupMul
import HandS.Conv
import HandS.CallSlots
import HandS.Iter
import HandS.ExcOwn
import HandS.Zip
import HandS.Defaults
import HandS.WordsExc
import HandS.ExcCtx
import KE.KStateDown
import HandS.Ends
import HandS.Words
import HandS.Head0
import HandS.Head1
import HandS.Head2
import HandS.HeadEnd
import HandS.EndBits
import HandS.HeadHook1
import HandS.HeadHook2
import HandS.HeadWalk
import HandS.SortInts
import KE.GoesMore
import HandS.SetFor
import KE.KUnpackStar
import HandS.ExcInit
import HandS.ExcField
import HandS.HotCalls
import HandS.TryMany
import KE.KExcInit
import PyProof.ExcBaseAll.LookupError
import PyProof.ExcBaseAll.IndexError
import PyProof.ExcBaseAll.ValueError
import KE.KTryMore
import PyProof.Rows.TupIter
import HandS.Dict
import HandS.DictComp
import HandS.Finally
import HandS.Text
import HandS.Sort
import HandS.SortKw
import KE.DataMinMax
import HandS.ListItems
import HandS.SortOrd
import HandS.SortRule
import HandS.Deep
import PySem.Challenge.RW_findforests_k41_whole_greatest_total_cos
set_option Elab.async false
set_option linter.all false
set_option maxRecDepth 100000
set_option maxHeartbeats 4000000
/-! GCore: a small core language of expressions and statements over trees and cells, and what must hold ahead of it (weakest preconditions). -/
namespace G
open PySem (Str Arguments Expr Scope)

/-- a lambda's text: its def's qualified name with <lambda>, its parameters' whole numbers as defaults -/
structure LamT where
  q : Str
  params : Arguments
  body : Expr
  scope : Scope
  dfl : List Int
  deriving Inhabited
/-- values: trees; a cell by its number; a lambda by its number, its text, its cells -/
inductive D where
  | non
  | bl (b : Bool)
  | int (i : Int)
  | str (s : Str)
  | tup (xs : List D)
  | lst (xs : List D)
  | dic (ks vs : List D)
  | ref (n : Nat)
  | scr
  | clo (j : Nat) (t : LamT) (cl : List (Str × Nat))
  deriving Inhabited

/-- what a cell holds -/
inductive Ob where
  | lst (xs : List D)
  | dic (ks vs : List D)
  | ins (c : Str) (fs : List (Str × D))
  | drw
  | set (w : PySem.World) (m : Nat) (S : Int → Bool) (n : Nat)
  | dit (l : List (List (Sum Int Str) × D))
abbrev Cs := Nat → Option Ob
def put (cs : Cs) (n : Nat) (o : Ob) : Cs := fun m => if m = n then some o else cs m
def del (cs : Cs) (n : Nat) : Cs := fun m => if m = n then none else cs m
/-- keys as values -/
def kD : Sum Int Str → D
  | .inl i => .int i
  | .inr x => .str x
abbrev DL := List (Sum Int Str × D)
def dicO (l : DL) : Ob := .dic (l.map fun p => kD p.1) (l.map (·.2))
def putA (l : DL) (k : Sum Int Str) (d : D) : DL := if (l.any fun p => decide (p.1 = k)) = true then l.map (fun p => if p.1 = k then (p.1, d) else p) else l ++ [(k, d)]
/-- an error: the name of its class, its fields -/
structure Er where
  tag : Str
  fs : List (Str × D)
abbrev KD := D → Cs → Prop
abbrev KX := Er → Cs → Prop
abbrev Spec := List D → Cs → KD → KX → Prop
abbrev ISpec := List D → Cs → (List D → (Cs → Prop) → Prop) → Prop
abbrev Sl := List (Option D)

/-- targets -/
inductive Pat where
  | nm (i : Nat)
  | nil
  | cons (p q : Pat)
  | tup (p : Pat)
@[simp] def bindP : Pat → List D → Sl → Option Sl
  | .nm i, [d], σ => some (σ.set i (some d))
  | .nil, [], σ => some σ
  | .cons p q, d :: ds, σ => match bindP p [d] σ with
    | some σ' => bindP q ds σ'
    | none => none
  | .tup p, [.tup ds], σ => bindP p ds σ
  | _, _, _ => none

/-- an error with one field, without -/
def er (tag f : Str) (d : D) : Er := ⟨tag, [(f, d), ("tag", .str tag)]⟩
def er0 (tag : Str) : Er := ⟨tag, [("tag", .str tag)]⟩
/-- the errors' fields -/
def fname (t : Str) : Option Str :=
  if t ∈ (["BadParent", "Cycle", "NotRoot", "SameRoot", "RootsDiffer", "NoWay", "BadWeight", "NoNode"] : List Str) then some "node"
  else if t ∈ (["TooManyNodes", "TooLong", "TooManyForests", "TooManyWatches"] : List Str) then some "limit"
  else if t ∈ (["BadStep", "BadCost", "Contradiction", "ParseError"] : List Str) then some "pos"
  else if t ∈ (["SizesDiffer", "BadSize"] : List Str) then some "size"
  else if t ∈ (["BadName", "NameTaken", "NoForest"] : List Str) then some "name"
  else if t = "BadCommand" then some "word"
  else if t = "BadCount" then some "count"
  else if t = "NoWatch" then some "number"
  else none
/-- what is told of an error -/
def IsEr (x : Er) (d : D) : Prop := (∃ f, fname x.tag = some f ∧ x = er x.tag f d) ∨ (x = er0 "EmptyHistory" ∧ d = .non)
/-- the triple (answer, tag, field), without the answer -/
def outD (k : Bool) (a : D) (t : Str) (d : D) : D := if k = true then .tup [.str t, d] else .tup [a, .str t, d]
def permL {α : Type} (ix : List Nat) (l : List α) : List α := ix.filterMap fun i => l[i]?
mutual
inductive E where
  | v (i : Nat)
  | c (d : D)
  | app (sp : Spec) (as : Es)
  | appk (n m : Nat) (ix : List Nat) (sp : Spec) (as bs : Es)
  | meth (chk : D → Cs → Prop) (sp : Spec) (o : E) (as : Es)
  | ite (c a b : E)
  | and (a b : E)
  | or (a b : E)
  | chain (s1 s2 : Spec) (a b c : E)
  | comp (m : Bool) (own : List Nat) (p : Pat) (it : ISpec) (as : Es) (c e : E)
  | dcomp (own : List Nat) (p : Pat) (it : ISpec) (as : Es) (c ek ev : E)
  | comp2 (m : Bool) (own own1 : List Nat) (p : Pat) (it : ISpec) (as : Es) (p1 : Pat) (it1 : ISpec) (as1 : Es) (e : E)
  | out (k : Bool) (e : E)
  | outv (k : Bool) (cl : List (Str × Nat)) (a : E) (l : Lt)
inductive Es where
  | nil
  | cons (e : E) (es : Es)
inductive Lt where
  | nil
  | cons (t : LamT) (e : E) (r : Lt)
end

inductive S where
  | skip
  | seq (a b : S)
  | asg (p : Pat) (e : E)
  | exp (e : E)
  | ret (e : E)
  | ite (c : E) (a b : S)
  | whl (c : E) (b : S)
  | fr (p : Pat) (it : ISpec) (as : Es) (b : S)
  | brk
  | cont
  | rse (sp : List D → Er) (as : Es)
  | frz (i : Nat)

@[simp] def getV : Sl → Nat → Option D
  | [], _ => none
  | x :: _, 0 => x
  | _ :: r, i + 1 => getV r i
def wipe (σ : Sl) : List Nat → Sl
  | [] => σ
  | i :: r => (wipe σ r).set i none

abbrev lim : Nat := 16777216
/-- the turns of a comprehension -/
def compL (p : Pat) (grd : Cs → Prop) (σ : Sl) (tst elt : Sl → Cs → KD → Prop) (Q : List D → Cs → Prop) : List D → List D → Cs → Prop
  | [], acc, cs => grd cs ∧ Q acc cs
  | x :: xs, acc, cs => grd cs ∧ match bindP p [x] σ with
    | none => False
    | some σ1 => tst σ1 cs fun b cs1 => (b = .bl true ∧ elt σ1 cs1 fun y cs2 => acc.length < lim ∧ compL p grd σ tst elt Q xs (acc ++ [y]) cs2) ∨ (b = .bl false ∧ compL p grd σ tst elt Q xs acc cs1)

/-- a comprehension of two clauses -/
def comp2L (p : Pat) (grd : Cs → Prop) (σ : Sl) (inn : Sl → List D → Cs → (List D → Cs → Prop) → Prop) (Q : List D → Cs → Prop) : List D → List D → Cs → Prop
  | [], acc, cs => grd cs ∧ Q acc cs
  | x :: xs, acc, cs => grd cs ∧ match bindP p [x] σ with
    | none => False
    | some σ1 => inn σ1 acc cs fun acc' cs' => comp2L p grd σ inn Q xs acc' cs'
/-- a dict comprehension: the dict is cell n from the start -/
def compD (n : Nat) (p : Pat) (grd : Cs → Prop) (σ : Sl) (tst ek ev : Sl → Cs → KD → Prop) (Q : Cs → Prop) : List D → Cs → Prop
  | [], cs => grd cs ∧ Q cs
  | x :: xs, cs => grd cs ∧ match bindP p [x] σ with
    | none => False
    | some σ1 => tst σ1 cs fun b cs1 => (b = .bl true ∧ ek σ1 cs1 fun y cs2 => ev σ1 cs2 fun z cs3 => ∃ l k, y = kD k ∧ cs3 n = some (dicO l) ∧ l.length < lim ∧ compD n p grd σ tst ek ev Q xs (put cs3 n (dicO (putA l k z)))) ∨ (b = .bl false ∧ compD n p grd σ tst ek ev Q xs cs1)
mutual
@[simp] def wpE : E → Sl → Cs → KD → KX → Prop
  | .v i, σ, cs, Q, _ => match getV σ i with
    | some d => Q d cs
    | none => False
  | .c d, _, cs, Q, _ => Q d cs
  | .app sp as, σ, cs, Q, X => wpEs as σ cs (fun ds cs' => sp ds cs' Q X) X
  | .appk n m ix sp as bs, σ, cs, Q, X => wpEs as σ cs (fun ds c1 => wpEs bs σ c1 (fun es c2 => ds.length = n ∧ es.length = m ∧ sp (permL ix (ds ++ es)) c2 Q X) X) X
  | .meth chk sp o as, σ, cs, Q, X => wpE o σ cs (fun d c1 => chk d c1 ∧ wpEs as σ c1 (fun ds c2 => sp (d :: ds) c2 Q X) X) X
  | .ite c a b, σ, cs, Q, X => wpE c σ cs (fun d cs' => match d with
    | .bl k => if k = true then wpE a σ cs' Q X else wpE b σ cs' Q X
    | _ => False) X
  | .and a b, σ, cs, Q, X => wpE a σ cs (fun d cs' => match d with
    | .bl k => if k = true then wpE b σ cs' Q X else Q (.bl false) cs'
    | _ => False) X
  | .or a b, σ, cs, Q, X => wpE a σ cs (fun d cs' => match d with
    | .bl k => if k = true then Q (.bl true) cs' else wpE b σ cs' Q X
    | _ => False) X
  | .chain s1 s2 a b c, σ, cs, Q, X => wpE a σ cs (fun x c1 => wpE b σ c1 (fun y c2 => s1 [x, y] c2 (fun d c3 => match d with
    | .bl k => if k = true then wpE c σ c3 (fun z c4 => s2 [y, z] c4 (fun d c5 => match d with
      | .bl k' => Q (.bl k') c5
      | _ => False) X) X else Q (.bl false) c3
    | _ => False) X) X) X
  | .comp m own p it as c e, σ, cs, Q, X => wpEs as σ cs (fun ds c1 => it ds c1 fun items grd =>
      compL p grd (wipe σ own) (fun σ1 c2 K => wpE c σ1 c2 K (fun _ _ => False)) (fun σ1 c2 K => wpE e σ1 c2 K (fun _ _ => False))
        (fun ys c3 => if m = true then ∀ n, c3 n = none → Q (.ref n) (put c3 n (.lst ys)) else Q (.lst ys) c3) items [] c1) X
  | .dcomp own p it as c ek ev, σ, cs, Q, X => wpEs as σ cs (fun ds c1 => it ds c1 fun items grd => ∀ n, c1 n = none →
      compD n p grd (wipe σ own) (fun σ1 c2 K => wpE c σ1 c2 K (fun _ _ => False)) (fun σ1 c2 K => wpE ek σ1 c2 K (fun _ _ => False)) (fun σ1 c2 K => wpE ev σ1 c2 K (fun _ _ => False)) (fun c3 => Q (.ref n) c3) items (put c1 n (dicO []))) X
  | .comp2 m own own1 p it as p1 it1 as1 e, σ, cs, Q, X => wpEs as σ cs (fun ds c1 => it ds c1 fun items grd =>
      comp2L p grd (wipe σ own) (fun σ1 acc c2 K => wpEs as1 σ1 c2 (fun ds1 c3 => it1 ds1 c3 fun items1 grd1 =>
        compL p1 grd1 (wipe σ1 own1) (fun _ c4 K => K (.bl true) c4) (fun σ2 c4 K => wpE e σ2 c4 K (fun _ _ => False)) K items1 acc c3) (fun _ _ => False))
        (fun ys c3 => if m = true then ∀ n, c3 n = none → Q (.ref n) (put c3 n (.lst ys)) else Q (.lst ys) c3) items [] c1) X
  | .out k e, σ, cs, Q, _ => wpE e σ cs (fun d c1 => Q (outD k d "" .non) c1) (fun x c1 => ∃ d, IsEr x d ∧ Q (outD k .non x.tag d) c1)
  | .outv k cl a l, σ, cs, Q, X => wpE a σ cs (fun d c1 => match d with
    | .clo j t cl' => cl' = cl ∧ wpL j l t σ c1 (fun d c2 => Q (outD k d "" .non) c2) (fun x c2 => ∃ d, IsEr x d ∧ Q (outD k .non x.tag d) c2)
    | _ => False) X
@[simp] def wpEs : Es → Sl → Cs → (List D → Cs → Prop) → KX → Prop
  | .nil, _, cs, Q, _ => Q [] cs
  | .cons e es, σ, cs, Q, X => wpE e σ cs (fun d c1 => wpEs es σ c1 (fun ds c2 => Q (d :: ds) c2) X) X
@[simp] def wpL : Nat → Lt → LamT → Sl → Cs → KD → KX → Prop
  | 0, .cons t' e _, t, σ, cs, Q, X => t = t' ∧ wpE e σ cs Q X
  | j + 1, .cons _ _ r, t, σ, cs, Q, X => wpL j r t σ cs Q X
  | _, .nil, _, _, _, _, _ => False
end

structure Ends where
  nx : Sl → Cs → Prop
  bk : Sl → Cs → Prop := fun _ _ => False
  ct : Sl → Cs → Prop := fun _ _ => False
  rt : KD
  ex : Er → Sl → Cs → Prop := fun _ _ _ => False

def forL (p : Pat) (grd : Cs → Prop) (body : Sl → Cs → Ends → Prop) (K : Ends) : List D → Sl → Cs → Prop
  | [], σ, cs => grd cs ∧ K.nx σ cs
  | x :: xs, σ, cs => grd cs ∧ match bindP p [x] σ with
    | none => False
    | some σ1 => body σ1 cs { nx := fun σ' cs' => forL p grd body K xs σ' cs', ct := fun σ' cs' => forL p grd body K xs σ' cs', bk := K.nx, rt := K.rt, ex := K.ex }
def whlN (tst : Sl → Cs → KD → KX → Prop) (body : Sl → Cs → Ends → Prop) (K : Ends) : Nat → Sl → Cs → Prop
  | 0, _, _ => False
  | n + 1, σ, cs => tst σ cs (fun d cs' => (d = .bl true ∧ body σ cs' { nx := fun σ' cs' => whlN tst body K n σ' cs', ct := fun σ' cs' => whlN tst body K n σ' cs', bk := K.nx, rt := K.rt, ex := K.ex }) ∨ (d = .bl false ∧ K.nx σ cs')) fun x cs' => K.ex x σ cs'

@[simp] def wpS : S → Sl → Cs → Ends → Prop
  | .skip, σ, cs, K => K.nx σ cs
  | .seq a b, σ, cs, K => wpS a σ cs { nx := fun σ' cs' => wpS b σ' cs' K, bk := K.bk, ct := K.ct, rt := K.rt, ex := K.ex }
  | .asg p e, σ, cs, K => wpE e σ cs (fun d cs' => match bindP p [d] σ with
    | some σ' => K.nx σ' cs'
    | none => False) fun x cs' => K.ex x σ cs'
  | .exp e, σ, cs, K => wpE e σ cs (fun _ cs' => K.nx σ cs') fun x cs' => K.ex x σ cs'
  | .ret e, σ, cs, K => wpE e σ cs K.rt fun x cs' => K.ex x σ cs'
  | .ite c a b, σ, cs, K => wpE c σ cs (fun d cs' => match d with
    | .bl k => if k = true then wpS a σ cs' K else wpS b σ cs' K
    | _ => False) fun x cs' => K.ex x σ cs'
  | .whl c b, σ, cs, K => ∃ n, whlN (wpE c) (wpS b) K n σ cs
  | .fr p it as b, σ, cs, K => wpEs as σ cs (fun ds c1 => it ds c1 fun items grd => forL p grd (wpS b) K items σ c1) fun x cs' => K.ex x σ cs'
  | .brk, σ, cs, K => K.bk σ cs
  | .cont, σ, cs, K => K.ct σ cs
  | .rse sp as, σ, cs, K => wpEs as σ cs (fun ds cs' => K.ex (sp ds) σ cs') fun x cs' => K.ex x σ cs'
  | .frz i, σ, cs, K => match getV σ i with
    | some (.ref n) => match cs n with
      | some (.lst xs) => K.nx (σ.set i (some (.lst xs))) (del cs n)
      | some (.dic ks vs) => K.nx (σ.set i (some (.dic ks vs))) (del cs n)
      | some (.dit l) => K.nx (σ.set i (some (.dic (l.map fun p => .tup (p.1.map kD)) (l.map (·.2))))) (del cs n)
      | _ => False
    | _ => False

/-- a def's start: the arguments, then the names without a value -/
def start (n : Nat) (ds : List D) : Sl := ds.map some ++ List.replicate (n - ds.length) none
def okFn (n : Nat) (body : S) (sp : Spec) : Prop := ∀ ds cs Q X, sp ds cs Q X → wpS body (start n ds) cs { nx := fun _ cs' => Q .non cs', rt := Q, ex := fun x _ cs' => X x cs' }

/-! ### a draw -/
structure DrwOk (ns : List Int) (p c z : Int) : Prop where
  len : ns.length ≤ 63
  big : ∀ n ∈ ns, n.natAbs < 2 ^ (2 ^ 20)
  p0 : 0 ≤ p
  c0 : 0 ≤ c
  z0 : 0 ≤ z
  z1 : z < 2305843009213693951
/-! ### operations -/
def getL : D → Cs → Option (List D)
  | .lst xs, _ => some xs
  | .ref n, cs => match cs n with
    | some (.lst xs) => some xs
    | _ => none
  | _, _ => none
def getQ : D → Cs → Option (List D)
  | .tup xs, _ => some xs
  | d, cs => getL d cs
/-- the place that an index names -/
def ixn (n : Nat) (i : Int) : Option Nat := if 0 ≤ i then (if i < n then some i.toNat else none) else if -(n : Int) ≤ i then some (i + n).toNat else none
def ix (xs : List D) (i : Int) : Option D := (ixn xs.length i).bind fun j => xs[j]?
mutual
def eqD : D → D → Bool
  | .non, .non => true
  | .bl a, .bl b => a == b
  | .bl a, .int j => (if a then 1 else 0) == j
  | .int i, .bl b => i == (if b then 1 else 0)
  | .int i, .int j => i == j
  | .str x, .str y => x == y
  | .lst xs, .lst ys => eqDs xs ys
  | .tup xs, .tup ys => eqDs xs ys
  | _, _ => false
def eqDs : List D → List D → Bool
  | [], [] => true
  | x :: xs, y :: ys => eqD x y && eqDs xs ys
  | _, _ => false
end
def strOk (x : Str) : Bool := x.cps.all (· < 0x110000)
mutual
/-- a tree of plain data, not deeper -/
def pur : Nat → D → Bool
  | _, .non => true
  | _, .bl _ => true
  | _, .int _ => true
  | _, .str x => strOk x
  | k + 1, .lst xs => decide (xs.length ≤ lim) && purs k xs
  | k + 1, .tup xs => decide (xs.length ≤ lim) && purs k xs
  | _, _ => false
def purs : Nat → List D → Bool
  | _, [] => true
  | k, x :: xs => pur k x && purs k xs
end
/-- a cell's list as a tree -/
def deref (cs : Cs) : D → D
  | .ref n => match cs n with
    | some (.lst xs) => .lst xs
    | _ => .ref n
  | d => d
def flat : D → Bool
  | .non => true
  | .bl _ => true
  | .int _ => true
  | .str _ => true
  | _ => false
def inD (x : D) (xs : List D) : Bool := xs.any fun y => eqD y x

def sInt (C : Int → Int → Prop) (f : Int → Int → D) : Spec := fun ds cs Q _ => match ds with
  | [.int i, .int j] => C i j ∧ Q (f i j) cs
  | _ => False
def CTrue (_ _ : Int) : Prop := True
def mulOk (i j : Int) : Prop := (-(2 ^ 64) < i ∧ i < 2 ^ 64) ∨ (-(2 ^ 64) < j ∧ j < 2 ^ 64) ∨ i.natAbs.log2 + j.natAbs.log2 < 1000000
def divOk (_ j : Int) : Prop := 0 < j ∧ j.natAbs.log2 < 9000
def modOk (_ j : Int) : Prop := 0 < j
def powOk (i j : Int) : Prop := 0 ≤ j ∧ j ≤ 1000000 ∧ i.natAbs < 2 ^ 64
/-- +: ints, texts, lists, tuples -/
def sAdd : Spec := fun ds cs Q _ => match ds with
  | [.int i, .int j] => Q (.int (i + j)) cs
  | [.str a, .str b] => a.length + b.length ≤ lim ∧ Q (.str (a ++ b)) cs
  | [.tup a, .tup b] => a ≠ [] ∧ a.length + b.length ≤ lim ∧ Q (.tup (a ++ b)) cs
  | [x, y] => match getL x cs, getL y cs with
    | some a, some b => a.length + b.length ≤ lim ∧ Q (.lst (a ++ b)) cs
    | _, _ => False
  | _ => False
def sSub : Spec := sInt CTrue fun i j => .int (i - j)
def sMul : Spec := sInt mulOk fun i j => .int (i * j)
def sDiv : Spec := sInt divOk fun i j => .int (i / j)
def sMod : Spec := sInt modOk fun i j => .int (i % j)
def sPow : Spec := sInt powOk fun i j => .int (i ^ j.toNat)
def sLt : Spec := sInt CTrue fun i j => .bl (decide (i < j))
def sLe : Spec := sInt CTrue fun i j => .bl (decide (i ≤ j))
def sGt : Spec := sInt CTrue fun i j => .bl (decide (j < i))
def sGe : Spec := sInt CTrue fun i j => .bl (decide (j ≤ i))
def sNeg : Spec := fun ds cs Q _ => match ds with
  | [.int i] => Q (.int (-i)) cs
  | _ => False
def sNot : Spec := fun ds cs Q _ => match ds with
  | [.bl b] => Q (.bl (!b)) cs
  | _ => False
def sEq : Spec := fun ds cs Q _ => match ds with
  | [x, y] => pur 64 (deref cs x) = true ∧ pur 64 (deref cs y) = true ∧ Q (.bl (eqD (deref cs x) (deref cs y))) cs
  | _ => False
def sNe : Spec := fun ds cs Q _ => match ds with
  | [x, y] => pur 64 (deref cs x) = true ∧ pur 64 (deref cs y) = true ∧ Q (.bl (!eqD (deref cs x) (deref cs y))) cs
  | _ => False
def isN : D → Bool
  | .non => true
  | _ => false
def sIsN : Spec := fun ds cs Q _ => match ds with
  | [x, .non] => Q (.bl (isN x)) cs
  | _ => False
def sNotN : Spec := fun ds cs Q _ => match ds with
  | [x, .non] => Q (.bl (!isN x)) cs
  | _ => False
/-- in a list or tuple of flat things -/
def sIn : Spec := fun ds cs Q _ => match ds with
  | [x, y] => match getQ y cs with
    | some xs => flat x = true ∧ xs.all flat = true ∧ Q (.bl (inD x xs)) cs
    | none => False
  | _ => False
def sNotIn : Spec := fun ds cs Q _ => match ds with
  | [x, y] => match getQ y cs with
    | some xs => flat x = true ∧ xs.all flat = true ∧ Q (.bl (!inD x xs)) cs
    | none => False
  | _ => False
def sLen : Spec := fun ds cs Q _ => match ds with
  | [.str s] => s.length ≤ lim ∧ Q (.int s.length) cs
  | [x] => match getQ x cs with
    | some xs => Q (.int xs.length) cs
    | none => False
  | _ => False
def sIx : Spec := fun ds cs Q _ => match ds with
  | [x, .int i] => match getQ x cs with
    | some xs => match ix xs i with
      | some d => Q d cs
      | none => False
    | none => False
  | _ => False
/-- displays -/
def sList : Spec := fun ds cs Q _ => ds.length ≤ lim ∧ Q (.lst ds) cs
def sListM : Spec := fun ds cs Q _ => ds.length ≤ lim ∧ ∀ n, cs n = none → Q (.ref n) (put cs n (.lst ds))
def sTup : Spec := fun ds cs Q _ => ds.length ≤ lim ∧ Q (.tup ds) cs
/-- list(x): a tree; a cell -/
def sListOf : Spec := fun ds cs Q _ => match ds with
  | [x] => match getQ x cs with
    | some xs => Q (.lst xs) cs
    | none => False
  | _ => False
def sListOfM : Spec := fun ds cs Q _ => match ds with
  | [x] => match getQ x cs with
    | some xs => ∀ n, cs n = none → Q (.ref n) (put cs n (.lst xs))
    | none => False
  | _ => False
def sTupOf : Spec := fun ds cs Q _ => match ds with
  | [x] => match getQ x cs with
    | some xs => Q (.tup xs) cs
    | none => False
  | _ => False
def rgD (a b : Int) : List D := (List.range (b - a).toNat).map fun i => D.int (a + (i : Nat))
/-- list(range(a, b)), tuple(range(a, b)) -/
def sListRg : Spec := fun ds cs Q _ => match ds with
  | [.int a, .int b] => -(2 ^ 62) ≤ a ∧ a < 2 ^ 62 ∧ -(2 ^ 62) ≤ b ∧ b < 2 ^ 62 ∧ (b - a).toNat ≤ lim ∧ Q (.lst (rgD a b)) cs
  | _ => False
def sTupRg : Spec := fun ds cs Q _ => match ds with
  | [.int a, .int b] => -(2 ^ 62) ≤ a ∧ a < 2 ^ 62 ∧ -(2 ^ 62) ≤ b ∧ b < 2 ^ 62 ∧ (b - a).toNat ≤ lim ∧ Q (.tup (rgD a b)) cs
  | _ => False
/-- xs * k: a cell -/
def sRepM : Spec := fun ds cs Q _ => match ds with
  | [x, .int k] => match getL x cs with
    | some xs => -(2 ^ 63) ≤ k ∧ k < 2 ^ 63 ∧ xs.length * k.toNat ≤ lim ∧ ∀ n, cs n = none → Q (.ref n) (put cs n (.lst (List.replicate k.toNat xs).flatten))
    | none => False
  | _ => False
def sRep : Spec := fun ds cs Q _ => match ds with
  | [x, .int k] => match getL x cs with
    | some xs => -(2 ^ 63) ≤ k ∧ k < 2 ^ 63 ∧ xs.length * k.toNat ≤ lim ∧ Q (.lst (List.replicate k.toNat xs).flatten) cs
    | none => False
  | _ => False
def sIxAt (n d : Nat) : Option Int → Nat
  | none => d
  | some i => if i < 0 then (i + n).toNat else min i.toNat n
/-- a cell is changed -/
def sAppend : Spec := fun ds cs Q _ => match ds with
  | [.ref n, y] => match cs n with
    | some (.lst xs) => xs.length < lim ∧ Q .non (put cs n (.lst (xs ++ [y])))
    | _ => False
  | _ => False
def sInsert : Spec := fun ds cs Q _ => match ds with
  | [.ref n, .int i, y] => match cs n with
    | some (.lst xs) => xs.length < lim ∧ 0 ≤ i ∧ i < 2 ^ 63 ∧ Q .non (put cs n (.lst (xs.take i.toNat ++ [y] ++ xs.drop i.toNat)))
    | _ => False
  | _ => False
/-- value, list, place -/
def sSetIx : Spec := fun ds cs Q _ => match ds with
  | [v, .ref n, .int i] => match cs n with
    | some (.lst xs) => match ixn xs.length i with
      | some j => Q .non (put cs n (.lst (xs.set j v)))
      | none => False
    | _ => False
  | _ => False
def chkL (d : D) (cs : Cs) : Prop := match getL d cs with
  | some _ => True
  | none => False
/-- the script, cut to 63 items -/
def sCutScr : Spec := fun ds cs Q _ => match ds with
  | [.scr] => ∀ ns : List Int, ns.length ≤ 63 → (∀ n ∈ ns, n.natAbs < 2 ^ (2 ^ 20)) → Q (.lst (ns.map D.int)) cs
  | _ => False
def sMax2 : Spec := sInt CTrue fun i j => .int (if j > i then j else i)
def sMin2 : Spec := sInt CTrue fun i j => .int (if j < i then j else i)
def asBools : List D → Option (List Bool)
  | [] => some []
  | .bl b :: r => (asBools r).map (b :: ·)
  | _ => none
def asInts : List D → Option (List Int)
  | [] => some []
  | .int b :: r => (asInts r).map (b :: ·)
  | _ => none
def sAll : Spec := fun ds cs Q _ => match ds with
  | [x] => match getL x cs with
    | some xs => match asBools xs with
      | some bs => Q (.bl (bs.all id)) cs
      | none => False
    | none => False
  | _ => False
def sSum : Spec := fun ds cs Q _ => match ds with
  | [x] => match getL x cs with
    | some xs => match asInts xs with
      | some ns => Q (.int ns.sum) cs
      | none => False
    | none => False
  | _ => False
/-- isinstance: the kinds -/
inductive Ty where
  | int | bool | str | list | tuple
def isTy (cs : Cs) : D → Ty → Option Bool
  | .non, _ => some false
  | .bl _, .int => some true
  | .bl _, .bool => some true
  | .bl _, _ => some false
  | .int _, .int => some true
  | .int _, _ => some false
  | .str _, .str => some true
  | .str _, _ => some false
  | .tup _, .tuple => some true
  | .tup _, _ => some false
  | .lst _, .list => some true
  | .lst _, _ => some false
  | .dic _ _, _ => none
  | .scr, _ => none
  | .clo _ _ _, _ => none
  | .ref n, t => match cs n, t with
    | some (.lst _), .list => some true
    | some (.lst _), _ => some false
    | _, _ => none
def sIsi (t : Ty) : Spec := fun ds cs Q _ => match ds with
  | [x] => match isTy cs x t with
    | some b => Q (.bl b) cs
    | none => False
  | _ => False
/-- isinstance(x, (s, t)) -/
def sIsi2 (s t : Ty) : Spec := fun ds cs Q _ => match ds with
  | [x] => match isTy cs x s, isTy cs x t with
    | some a, some b => Q (.bl (a || b)) cs
    | _, _ => False
  | _ => False

/-! ### what is walked -/
def grdL (d : D) (cs : Cs) : Cs → Prop := fun cs' => match d with
  | .ref n => cs' n = cs n
  | _ => True
def iSeq : ISpec := fun ds cs R => match ds with
  | [x] => match getQ x cs with
    | some xs => R xs (grdL x cs)
    | none => False
  | _ => False
def iRng1 : ISpec := fun ds _ R => match ds with
  | [.int b] => -(2 ^ 62) ≤ b ∧ b < 2 ^ 62 ∧ R (rgD 0 b) (fun _ => True)
  | _ => False
def iRng2 : ISpec := fun ds _ R => match ds with
  | [.int a, .int b] => (-(2 ^ 62) ≤ a ∧ a < 2 ^ 62 ∧ -(2 ^ 62) ≤ b ∧ b < 2 ^ 62) ∧ R (rgD a b) (fun _ => True)
  | _ => False
def enumD (n : Int) : List D → List D
  | [] => []
  | x :: r => .tup [.int n, x] :: enumD (n + 1) r
def iEnum : ISpec := fun ds cs R => match ds with
  | [x] => match getQ x cs with
    | some xs => R (enumD 0 xs) (grdL x cs)
    | none => False
  | _ => False
def zipD : List D → List D → List D
  | x :: r, y :: s => .tup [x, y] :: zipD r s
  | _, _ => []
def iZip : ISpec := fun ds cs R => match ds with
  | [x, y] => match x, y with
    | .tup xs, .tup ys => R (zipD xs ys) (fun _ => True)
    | x, y => match getL x cs, getL y cs with
      | some xs, some ys => R (zipD xs ys) (fun c => grdL x cs c ∧ grdL y cs c)
      | _, _ => False
  | _ => False
end G

/-! GRel: how trees and cells lie in the abstract heap. -/
namespace G
open PySem L2
open Evl (Ex)

/-- a lambda as it lies: its code object at c, its defaults dV -/
def LamO (f c : Addr) (t : LamT) (cl : List (Str × Addr)) (dV : Value) : HO := .ext fun h => ∃ pm ctv : Value, h.get? f = some { cls := .type "function", data := .func { PySem.W.kla_fn "<lambda>" t.q t.params t.body t.scope cl pm (.ref c) ctv with defaults := dV } }
/-- the tables of the written defs that K leaves out: each with the name of its def's lambdas -/
def tabsOf (K : PySem.W.Frag) : List (Addr × Str) := K.filterMap fun q => match q.2.data with
  | .func fd => match fd.code with
    | .ref c => if (K.lookup (He.tabOf K c)).isNone then some (He.tabOf K c, fd.qualname ++ ".<locals>." ++ "<lambda>") else none
    | _ => none
  | _ => none
/-- a world: the known part of the heap, the cells' addresses, the tables of code objects -/
structure Wd where
  B : Hp
  r : Nat → Option Addr
  k : Nat
structure Wd.le (a b : Wd) : Prop where
  B : Ex a.B b.B
  r : ∀ n x, a.r n = some x → b.r n = some x
theorem Wd.le.refl (a : Wd) : a.le a := ⟨Ex.refl _, fun _ _ h => h⟩
theorem Wd.le.trans {a b c : Wd} (h : a.le b) (k : b.le c) : a.le c := ⟨h.B.trans k.B, fun n x e => k.r n x (h.r n x e)⟩

section
variable (K : PySem.W.Frag)
mutual
def Rp (wd : Wd) : D → V → Prop
  | .non, v => v = .non
  | .bl b, v => v = .bl b
  | .int i, v => v = .int i
  | .str s, v => v = .str s
  | .tup ds, v => ∃ a xs, v = .ref a ∧ wd.B a = some (.tup xs) ∧ RpL wd ds xs
  | .lst ds, v => ∃ a xs, v = .ref a ∧ wd.B a = some (.lst xs) ∧ RpL wd ds xs
  | .dic ks vs, v => ∃ a o, v = .ref a ∧ ((∃ kvs : List (L2.Key × V), wd.B a = some (.frz o (.dK kvs)) ∧ ks = kvs.map (fun p => kD p.1) ∧ RpL wd vs (kvs.map (·.2))) ∨ ∃ kvs : List (List L2.Key × V), wd.B a = some (.frz o (.dT kvs)) ∧ ks = kvs.map (fun p => D.tup (p.1.map kD)) ∧ RpL wd vs (kvs.map (·.2)))
  | .ref n, v => ∃ a, wd.r n = some a ∧ v = .ref a
  | .scr, v => ∃ (a : Addr) (ns : List Int), v = .ref a ∧ SqL K wd.B a (ns.map V.int) ∧ ns.length ≤ 63 ∧ ∀ n ∈ ns, n.natAbs < 2 ^ (2 ^ 20)
  | .clo _ t cl, v => ∃ (f c : Addr) (dV : Value), v = .ref f ∧ wd.B f = some (LamO f c t (L2.cloFrom cl t.scope.names []) dV) ∧ wd.B c = some (LamX.CodeO c t.q) ∧ ((t.dfl = [] ∧ dV = .none) ∨ (t.dfl ≠ [] ∧ ∃ p, dV = .ref p ∧ wd.B p = some (.tup (t.dfl.map V.int))))
def RpL (wd : Wd) : List D → List V → Prop
  | [], vs => vs = []
  | d :: ds, vs => ∃ v r, vs = v :: r ∧ Rp wd d v ∧ RpL wd ds r
end
variable {K} {wd wd' : Wd}
mutual
theorem Rp.mono (h : wd.le wd') : ∀ (d : D) (v : V), Rp K wd d v → Rp K wd' d v
  | .non, _, q => q
  | .bl _, _, q => q
  | .int _, _, q => q
  | .str _, _, q => q
  | .tup ds, v, q => by
    obtain ⟨a, xs, e, s, r⟩ := q
    exact ⟨a, xs, e, h.B a _ s, RpL.mono h ds xs r⟩
  | .lst ds, v, q => by
    obtain ⟨a, xs, e, s, r⟩ := q
    exact ⟨a, xs, e, h.B a _ s, RpL.mono h ds xs r⟩
  | .dic ks vs, v, q => by
    obtain ⟨a, o, e, q⟩ := q
    rcases q with ⟨kvs, h1, h2, h3⟩ | ⟨kvs, h1, h2, h3⟩
    · exact ⟨a, o, e, .inl ⟨kvs, h.B a _ h1, h2, RpL.mono h vs _ h3⟩⟩
    · exact ⟨a, o, e, .inr ⟨kvs, h.B a _ h1, h2, RpL.mono h vs _ h3⟩⟩
  | .scr, v, q => by
    obtain ⟨a, ns, e, s, r⟩ := q
    exact ⟨a, ns, e, Evl.ex_l h.B s, r⟩
  | .ref n, v, q => by
    obtain ⟨a, e, z⟩ := q
    exact ⟨a, h.r n a e, z⟩
  | .clo _ _ _, v, q => by
    obtain ⟨f, c, dV, e, h1, h2, h3⟩ := q
    exact ⟨f, c, dV, e, h.B _ _ h1, h.B _ _ h2, h3.imp id fun ⟨n, p, e, z⟩ => ⟨n, p, e, h.B _ _ z⟩⟩
theorem RpL.mono (h : wd.le wd') : ∀ (ds : List D) (vs : List V), RpL K wd ds vs → RpL K wd' ds vs
  | [], _, q => q
  | d :: ds, vs, q => by
    obtain ⟨v, r, e, a, b⟩ := q
    exact ⟨v, r, e, Rp.mono h d v a, RpL.mono h ds r b⟩
end
theorem RpL.length : ∀ {ds : List D} {vs : List V}, RpL K wd ds vs → vs.length = ds.length
  | [], vs, q => by
    have e : vs = [] := q
    rw [e]
    rfl
  | d :: ds, vs, q => by
    obtain ⟨v, r, e, a, b⟩ := q
    rw [e, List.length_cons, List.length_cons, RpL.length b]
theorem RpL.get : ∀ {ds : List D} {vs : List V} {i : Nat} {d : D}, RpL K wd ds vs → ds[i]? = some d → ∃ v, vs[i]? = some v ∧ Rp K wd d v
  | [], _, _, _, _, e => by simp at e
  | d :: ds, vs, 0, d', q, e => by
    obtain ⟨v, r, ev, a, b⟩ := q
    simp at e
    subst e ev
    exact ⟨v, rfl, a⟩
  | d :: ds, vs, i + 1, d', q, e => by
    obtain ⟨v, r, ev, a, b⟩ := q
    subst ev
    obtain ⟨v', h1, h2⟩ := RpL.get (i := i) (d := d') b (by simpa using e)
    exact ⟨v', by simpa using h1, h2⟩
theorem RpL.append : ∀ {ds es : List D} {vs ws : List V}, RpL K wd ds vs → RpL K wd es ws → RpL K wd (ds ++ es) (vs ++ ws)
  | [], es, vs, ws, h, k => by
    have e : vs = [] := h
    subst e
    exact k
  | d :: ds, es, vs, ws, h, k => by
    obtain ⟨v, r, e, a, b⟩ := h
    subst e
    exact ⟨v, r ++ ws, rfl, a, RpL.append b k⟩
theorem RpL.set : ∀ {ds : List D} {vs : List V} {i : Nat} {d : D} {v : V}, RpL K wd ds vs → Rp K wd d v → RpL K wd (ds.set i d) (vs.set i v)
  | [], vs, _, _, _, h, _ => by
    have e : vs = [] := h
    subst e
    exact rfl
  | d :: ds, vs, 0, d', v', h, k => by
    obtain ⟨v, r, e, a, b⟩ := h
    subst e
    exact ⟨v', r, rfl, k, b⟩
  | d :: ds, vs, i + 1, d', v', h, k => by
    obtain ⟨v, r, e, a, b⟩ := h
    subst e
    exact ⟨v, r.set i v', rfl, a, RpL.set b k⟩
theorem RpL.take : ∀ {ds : List D} {vs : List V} (n : Nat), RpL K wd ds vs → RpL K wd (ds.take n) (vs.take n)
  | [], vs, n, h => by
    have e : vs = [] := h
    subst e
    rw [List.take_nil, List.take_nil]
    exact rfl
  | d :: ds, vs, 0, h => rfl
  | d :: ds, vs, n + 1, h => by
    obtain ⟨v, r, e, a, b⟩ := h
    subst e
    exact ⟨v, r.take n, rfl, a, RpL.take n b⟩
theorem RpL.drop : ∀ {ds : List D} {vs : List V} (n : Nat), RpL K wd ds vs → RpL K wd (ds.drop n) (vs.drop n)
  | [], vs, n, h => by
    have e : vs = [] := h
    subst e
    rw [List.drop_nil, List.drop_nil]
    exact rfl
  | d :: ds, vs, 0, h => h
  | d :: ds, vs, n + 1, h => by
    obtain ⟨v, r, e, a, b⟩ := h
    subst e
    exact RpL.drop n b
theorem RpL.one {d : D} {vs : List V} (h : RpL K wd [d] vs) : ∃ v, vs = [v] ∧ Rp K wd d v := by
  obtain ⟨v, r, e, a, b⟩ := h
  have e2 : r = [] := b
  subst e2
  exact ⟨v, e, a⟩
theorem RpL.two {d e : D} {vs : List V} (h : RpL K wd [d, e] vs) : ∃ v w, vs = [v, w] ∧ Rp K wd d v ∧ Rp K wd e w := by
  obtain ⟨v, r, e1, a, b⟩ := h
  obtain ⟨w, e2, c⟩ := RpL.one b
  subst e2
  exact ⟨v, w, e1, a, c⟩
theorem RpL.three {d e f : D} {vs : List V} (h : RpL K wd [d, e, f] vs) : ∃ v w u, vs = [v, w, u] ∧ Rp K wd d v ∧ Rp K wd e w ∧ Rp K wd f u := by
  obtain ⟨v, r, e1, a, b⟩ := h
  obtain ⟨w, u, e2, c, d⟩ := RpL.two b
  subst e2
  exact ⟨v, w, u, e1, a, c, d⟩
end

/-- a cell's content -/
def RpO (K : PySem.W.Frag) (wd : Wd) : Ob → HO → Prop
  | .lst ds, o => ∃ xs, o = .lst xs ∧ RpL K wd ds xs
  | .dic ks vs, o => ∃ kvs : List (L2.Key × V), o = .dK kvs ∧ ks = kvs.map (fun p => kD p.1) ∧ RpL K wd vs (kvs.map (·.2))
  | .ins _ _, _ => False
  | .set w m S n, o => ∃ a, wd.r m = some a ∧ o = SetO w a S n
  | .dit l, o => ∃ kvs : List (List L2.Key × V), o = .dT kvs ∧ l.map (·.1) = kvs.map (·.1) ∧ RpL K wd (l.map (·.2)) (kvs.map (·.2))
  | .drw, o => ∃ (ns : List Int) (p c z : Int) (a : Addr), o = .lst [.ref a, .int p, .int c, .int z] ∧ wd.B a = some (.lst (ns.map V.int)) ∧ DrwOk ns p c z
theorem RpO.mono {K : PySem.W.Frag} {wd wd' : Wd} (h : wd.le wd') : ∀ {o : Ob} {u : HO}, RpO K wd o u → RpO K wd' o u
  | .lst ds, _, ⟨xs, e, r⟩ => ⟨xs, e, RpL.mono h ds xs r⟩
  | .dic ks vs, _, ⟨kvs, e, k, r⟩ => ⟨kvs, e, k, RpL.mono h vs _ r⟩
  | .set _ m _ _, _, ⟨a, e, z⟩ => ⟨a, h.r m a e, z⟩
  | .dit l, _, ⟨kvs, e, k, r⟩ => ⟨kvs, e, k, RpL.mono h _ _ r⟩
  | .drw, _, ⟨ns, p, c, z, a, e, s, r⟩ => ⟨ns, p, c, z, a, e, h.B a _ s, r⟩
theorem RpO.notbl {K : PySem.W.Frag} {wd : Wd} : ∀ {o : Ob} {u : HO}, RpO K wd o u → ∀ q, u ≠ .tbl q
  | .lst ds, _, ⟨xs, e, r⟩, q => by rw [e]; intro z; cases z
  | .dic _ _, _, ⟨kvs, e, _⟩, q => by rw [e]; intro z; cases z
  | .set _ _ _ _, _, ⟨a, _, e⟩, q => by rw [e]; intro z; cases z
  | .dit _, _, ⟨kvs, e, _⟩, q => by rw [e]; intro z; cases z
  | .drw, _, ⟨ns, p, c, z, a, e, s, r⟩, q => by rw [e]; intro z; cases z
/-- the table at P: each code object that it tells is known and bears the name q -/
def TabB' (B H : Hp) (P : Addr) (q : Str) : Prop := ∃ ps : Array Value, H P = some (.tbl ps) ∧ TriplesOk ps.toList ∧ ∀ (pos : Pos) (cv : Value), codeAmong pos ps.toList = some cv → ∃ c, cv = .ref c ∧ B c = some (LamX.CodeO c q)
/-- the state: H holds the world's known part, an untold part F that stays, the cells -/
structure Rl (K : PySem.W.Frag) (wd : Wd) (F : Hp) (cs : Cs) (H : Hp) : Prop where
  b : Ex wd.B H
  f : Ex F H
  bf : ∀ a o, wd.B a = some o → F a = none
  inj : ∀ n m a, wd.r n = some a → wd.r m = some a → n = m
  cell : ∀ n o, cs n = some o → ∃ a u, wd.r n = some a ∧ wd.B a = none ∧ F a = none ∧ H a = some u ∧ RpO K wd o u
  ran : ∀ n a, wd.r n = some a → ∃ o, H a = some o ∧ ∀ q, o ≠ .tbl q
  top : ∀ n, wd.k ≤ n → wd.r n = none
  rf : ∀ n a, wd.r n = some a → F a = none
  fe : ∀ a o, F a = some o → ∃ xs, o = .lst xs
  tab : ∀ p ∈ tabsOf K, TabB' wd.B H p.1 p.2
  bt : ∀ a q, wd.B a ≠ some (.tbl q)
section
variable {K : PySem.W.Frag} {wd : Wd} {F H : Hp} {cs : Cs}
/-- less is known of the cells -/
theorem Rl.less {cs' : Cs} (R : Rl K wd F cs H) (h : ∀ n o, cs' n = some o → cs n = some o) : Rl K wd F cs' H :=
  ⟨R.b, R.f, R.bf, R.inj, fun n o e => R.cell n o (h n o e), R.ran, R.top, R.rf, R.fe, R.tab, R.bt⟩
/-- a table is no known object -/
theorem Rl.notbl (R : Rl K wd F cs H) {P : Addr} {ps : Array Value} (h : H P = some (.tbl ps)) {a : Addr} {o : HO} (e : H a = some o) (n : ∀ q, o ≠ .tbl q) : a ≠ P := fun z => by
  rw [z, h] at e
  exact n ps (Option.some.inj e).symm
theorem Rl.tabNew (R : Rl K wd F cs H) {p : Addr} (hp : H p = none) {o : HO} {B' : Hp} (b : Ex wd.B B') : ∀ q ∈ tabsOf K, TabB' B' (upd H p o) q.1 q.2 := fun q hq => by
  obtain ⟨ps, h1, h2, h3⟩ := R.tab q hq
  refine ⟨ps, by rw [upd_ne (ne_of_none h1 hp)]; exact h1, h2, fun pos cv e => ?_⟩
  obtain ⟨c, e1, e2⟩ := h3 pos cv e
  exact ⟨c, e1, b _ _ e2⟩
theorem Rl.bnone (R : Rl K wd F cs H) {p : Addr} (h : H p = none) : wd.B p = none := Evl.fresh_back R.b h
/-- a new known object -/
theorem Rl.btNew (R : Rl K wd F cs H) {p : Addr} {o : HO} (ho : ∀ q, o ≠ .tbl q) : ∀ a q, upd wd.B p o a ≠ some (.tbl q) := fun a q e => by
  by_cases h : a = p
  · subst h
    rw [upd_same] at e
    exact ho q (Option.some.inj e)
  · rw [upd_ne h] at e
    exact R.bt a q e
theorem Rl.new (R : Rl K wd F cs H) {p : Addr} (hp : H p = none) (o : HO) (ho : ∀ q, o ≠ .tbl q := by (intro _ z; cases z)) : Rl K ⟨upd wd.B p o, wd.r, wd.k⟩ F cs (upd H p o) ∧ wd.le ⟨upd wd.B p o, wd.r, wd.k⟩ := by
  have bn := R.bnone hp
  have fn := Evl.fresh_back R.f hp
  have le : wd.le ⟨upd wd.B p o, wd.r, wd.k⟩ := ⟨Ex.new bn, fun _ _ h => h⟩
  refine ⟨⟨fun a u e => ?_, fun a u e => ?_, fun a u e => ?_, R.inj, fun n u e => ?_, fun n a e => ?_, R.top, R.rf, R.fe, R.tabNew hp le.B, R.btNew ho⟩, le⟩
  · have e : upd wd.B p o a = some u := e
    by_cases h : a = p
    · subst h
      rw [upd_same] at e ⊢
      exact e
    · rw [upd_ne h] at e ⊢
      exact R.b a u e
  · rw [upd_ne (ne_of_none e fn)]
    exact R.f a u e
  · have e : upd wd.B p o a = some u := e
    by_cases h : a = p
    · subst h
      exact fn
    · rw [upd_ne h] at e
      exact R.bf a u e
  · obtain ⟨a, v, e1, e2, e3, e4, e5⟩ := R.cell n u e
    have ne : a ≠ p := ne_of_none e4 hp
    exact ⟨a, v, e1, (upd_ne ne).trans e2, e3, (upd_ne ne).trans e4, e5.mono le⟩
  · obtain ⟨u, hu, hn⟩ := R.ran n a e
    exact ⟨u, by rw [upd_ne (ne_of_none hu hp)]; exact hu, hn⟩
/-- a new cell: its number is free -/
theorem Rl.cellNew (R : Rl K wd F cs H) {p : Addr} (hp : H p = none) {o : Ob} {u : HO} (h : RpO K wd o u) : ∃ n wd', cs n = none ∧ wd.le wd' ∧ wd'.r n = some p ∧ Rl K wd' F (put cs n o) (upd H p u) := by
  have bn := R.bnone hp
  have fn := Evl.fresh_back R.f hp
  have rk : wd.r wd.k = none := R.top wd.k (Nat.le_refl _)
  have nr : ∀ m b, wd.r m = some b → b ≠ p := fun m b e => by
    obtain ⟨w, hw, _⟩ := R.ran m b e
    exact ne_of_none hw hp
  have le : wd.le ⟨wd.B, fun m => if m = wd.k then some p else wd.r m, wd.k + 1⟩ := ⟨Ex.refl _, fun m b e => by
    show (if m = wd.k then some p else wd.r m) = some b
    by_cases hm : m = wd.k
    · rw [hm, rk] at e
      cases e
    · rw [if_neg hm]
      exact e⟩
  have ck : cs wd.k = none := by
    cases q : cs wd.k with
    | none => rfl
    | some o =>
      obtain ⟨a, v, e1, _⟩ := R.cell _ _ q
      rw [rk] at e1
      cases e1
  refine ⟨wd.k, ⟨wd.B, fun m => if m = wd.k then some p else wd.r m, wd.k + 1⟩, ck, le, if_pos rfl, fun b w e => ?_, fun b w e => ?_, R.bf, fun n m a e1 e2 => ?_, fun m w e => ?_, fun m b e => ?_, fun m hm => ?_, fun m b e => ?_, R.fe, R.tabNew hp le.B, R.bt⟩
  · rw [upd_ne (ne_of_none e bn)]
    exact R.b b w e
  · rw [upd_ne (ne_of_none e fn)]
    exact R.f b w e
  · have e1 : (if n = wd.k then some p else wd.r n) = some a := e1
    have e2 : (if m = wd.k then some p else wd.r m) = some a := e2
    by_cases hn : n = wd.k
    · by_cases hm : m = wd.k
      · rw [hn, hm]
      · rw [if_pos hn] at e1
        rw [if_neg hm] at e2
        exact absurd (Option.some.inj e1).symm (nr m a e2)
    · by_cases hm : m = wd.k
      · rw [if_pos hm] at e2
        rw [if_neg hn] at e1
        exact absurd (Option.some.inj e2).symm (nr n a e1)
      · rw [if_neg hn] at e1
        rw [if_neg hm] at e2
        exact R.inj n m a e1 e2
  · by_cases hm : m = wd.k
    · subst hm
      have ew : o = w := by
        unfold put at e
        rw [if_pos rfl] at e
        exact Option.some.inj e
      subst ew
      exact ⟨p, u, if_pos rfl, bn, fn, upd_same, h.mono le⟩
    · unfold put at e
      rw [if_neg hm] at e
      obtain ⟨b, x, f1, f2, f3, f4, f5⟩ := R.cell m w e
      exact ⟨b, x, (if_neg hm).trans f1, f2, f3, (upd_ne (nr m b f1)).trans f4, f5.mono le⟩
  · have e : (if m = wd.k then some p else wd.r m) = some b := e
    by_cases hm : m = wd.k
    · rw [if_pos hm] at e
      have eb := Option.some.inj e
      subst eb
      exact ⟨u, upd_same, h.notbl⟩
    · rw [if_neg hm] at e
      obtain ⟨w, hw, hn⟩ := R.ran m b e
      exact ⟨w, by rw [upd_ne (nr m b e)]; exact hw, hn⟩
  · have hm : wd.k + 1 ≤ m := hm
    show (if m = wd.k then some p else wd.r m) = none
    rw [if_neg (by omega)]
    exact R.top m (by omega)
  · have e : (if m = wd.k then some p else wd.r m) = some b := e
    by_cases hm : m = wd.k
    · rw [if_pos hm] at e
      have eb := Option.some.inj e
      subst eb
      exact fn
    · rw [if_neg hm] at e
      exact R.rf m b e
/-- a cell is written -/
theorem Rl.write (R : Rl K wd F cs H) {n : Nat} {a : Addr} {o' : Ob} {u : HO} (hn : ∃ o, cs n = some o) (ha : wd.r n = some a) (h : RpO K wd o' u) : Rl K wd F (put cs n o') (upd H a u) := by
  obtain ⟨o, hn⟩ := hn
  obtain ⟨a', v, e1, e2, e3, e4, e5⟩ := R.cell n o hn
  have ea : a' = a := Option.some.inj (e1.symm.trans ha)
  subst ea
  refine ⟨fun b w e => ?_, fun b w e => ?_, R.bf, R.inj, fun m w e => ?_, fun m b e => ?_, R.top, R.rf, R.fe, fun p hp => ?_, R.bt⟩
  · rw [upd_ne (ne_of_none e e2)]
    exact R.b b w e
  · rw [upd_ne (ne_of_none e e3)]
    exact R.f b w e
  · by_cases hm : m = n
    · subst hm
      have ew : o' = w := by
        unfold put at e
        rw [if_pos rfl] at e
        exact Option.some.inj e
      subst ew
      exact ⟨a', u, e1, e2, e3, upd_same, h⟩
    · unfold put at e
      rw [if_neg hm] at e
      obtain ⟨b, x, f1, f2, f3, f4, f5⟩ := R.cell m w e
      have ne : b ≠ a' := fun z => hm (R.inj m n a' (by rw [← z]; exact f1) e1)
      exact ⟨b, x, f1, f2, f3, by rw [upd_ne ne]; exact f4, f5⟩
  · by_cases h2 : b = a'
    · subst h2
      exact ⟨u, upd_same, h.notbl⟩
    · obtain ⟨w, hw, hn⟩ := R.ran m b e
      exact ⟨w, by rw [upd_ne h2]; exact hw, hn⟩
  · obtain ⟨ps, h1, h2, h3⟩ := R.tab p hp
    have ne : a' ≠ p.1 := R.notbl h1 e4 (e5.notbl)
    exact ⟨ps, by rw [upd_ne (Ne.symm ne)]; exact h1, h2, h3⟩
/-- a cell's list becomes known: it is written no more -/
theorem Rl.freeze (R : Rl K wd F cs H) {n : Nat} {ds : List D} (hn : cs n = some (.lst ds)) : ∃ wd' a, wd.le wd' ∧ wd.r n = some a ∧ Rl K wd' F (del cs n) H ∧ Rp K wd' (.lst ds) (.ref a) := by
  obtain ⟨a, u, e1, e2, e3, e4, xs, e5, e6⟩ := R.cell n _ hn
  subst e5
  have le : wd.le ⟨upd wd.B a (.lst xs), wd.r, wd.k⟩ := ⟨Ex.new e2, fun _ _ h => h⟩
  refine ⟨⟨upd wd.B a (.lst xs), wd.r, wd.k⟩, a, le, e1, ⟨fun b w e => ?_, R.f, fun b w e => ?_, R.inj, fun m w e => ?_, R.ran, R.top, R.rf, R.fe, fun p hp => ?_, R.btNew (fun q z => by cases z)⟩, ⟨a, xs, rfl, upd_same, RpL.mono le _ _ e6⟩⟩
  · have e : upd wd.B a (.lst xs) b = some w := e
    by_cases h : b = a
    · subst h
      rw [upd_same] at e
      rw [← e]
      exact e4
    · rw [upd_ne h] at e
      exact R.b b w e
  · have e : upd wd.B a (.lst xs) b = some w := e
    by_cases h : b = a
    · subst h
      exact e3
    · rw [upd_ne h] at e
      exact R.bf b w e
  · unfold del at e
    by_cases hm : m = n
    · rw [if_pos hm] at e
      cases e
    · rw [if_neg hm] at e
      obtain ⟨b, x, f1, f2, f3, f4, f5⟩ := R.cell m w e
      have ne : b ≠ a := fun z => hm (R.inj m n a (by rw [← z]; exact f1) e1)
      exact ⟨b, x, f1, (upd_ne ne).trans f2, f3, f4, f5.mono le⟩
  · obtain ⟨ps, h1, h2, h3⟩ := R.tab p hp
    exact ⟨ps, h1, h2, fun pos cv e => let ⟨c, e1, e2⟩ := h3 pos cv e; ⟨c, e1, le.B _ _ e2⟩⟩
/-- the list of a tree or a cell -/
theorem Rl.getL (R : Rl K wd F cs H) {d : D} {v : V} {xs : List D} (r : Rp K wd d v) (h : getL d cs = some xs) : ∃ a vs, v = .ref a ∧ H a = some (.lst vs) ∧ RpL K wd xs vs := by
  cases d with
  | lst ds =>
    obtain ⟨a, vs, e, s, q⟩ := r
    have e2 : ds = xs := Option.some.inj h
    subst e2
    exact ⟨a, vs, e, R.b a _ s, q⟩
  | ref n =>
    obtain ⟨a, e1, e2⟩ := r
    have h : (match cs n with
      | some (.lst xs) => some xs
      | _ => none) = some xs := h
    cases hc : cs n with
    | none =>
      rw [hc] at h
      cases h
    | some o =>
      rw [hc] at h
      cases o with
      | lst ds =>
        have e3 : ds = xs := Option.some.inj h
        subst e3
        obtain ⟨a', u, f1, f2, f3, f4, ws, f5, f6⟩ := R.cell n _ hc
        have ea : a' = a := Option.some.inj (f1.symm.trans e1)
        subst ea f5
        exact ⟨a', ws, e2, f4, f6⟩
      | dic _ _ => cases h
      | ins _ _ => cases h
      | drw => cases h
      | set _ _ _ _ => cases h
      | dit _ => cases h
  | non => cases h
  | bl _ => cases h
  | int _ => cases h
  | str _ => cases h
  | tup _ => cases h
  | dic _ _ => cases h
  | scr => cases h
  | clo _ _ _ => cases h
theorem Rl.getQ (R : Rl K wd F cs H) {d : D} {v : V} {xs : List D} (r : Rp K wd d v) (h : getQ d cs = some xs) : ∃ a vs, v = .ref a ∧ (H a = some (.lst vs) ∨ SqT K H a vs) ∧ RpL K wd xs vs := by
  cases d with
  | tup ds =>
    obtain ⟨a, vs, e, s, q⟩ := r
    have e2 : ds = xs := Option.some.inj h
    subst e2
    exact ⟨a, vs, e, .inr (SqT.of (R.b a _ s)), q⟩
  | lst ds =>
    obtain ⟨a, vs, e, s, q⟩ := R.getL (d := .lst ds) r h
    exact ⟨a, vs, e, .inl s, q⟩
  | ref n =>
    obtain ⟨a, vs, e, s, q⟩ := R.getL (d := .ref n) r h
    exact ⟨a, vs, e, .inl s, q⟩
  | non => cases h
  | bl _ => cases h
  | int _ => cases h
  | str _ => cases h
  | dic _ _ => cases h
  | scr => cases h
  | clo _ _ _ => cases h
end
end G

/-! GJud: the judgements: a piece of Python and its core term. -/
namespace G
open PySem PySem.Spec L2
open Evl (Ex)

/-- slots -/
structure RS (K : PySem.W.Frag) (wd : Wd) (τ : Sl) (σ : St) : Prop where
  len : τ.length = σ.length
  at_ : ∀ i d, getV τ i = some d → ∃ v, σ[i]? = some (some v) ∧ Rp K wd d v
theorem getV_eq : ∀ (τ : Sl) (i : Nat), getV τ i = (τ[i]?).join
  | [], i => by simp [getV]
  | x :: r, 0 => by simp [getV]
  | x :: r, i + 1 => by
    show getV r i = _
    rw [getV_eq r i]
    simp
theorem RS.mono {K : PySem.W.Frag} {wd wd' : Wd} {τ : Sl} {σ : St} (h : RS K wd τ σ) (l : wd.le wd') : RS K wd' τ σ :=
  ⟨h.len, fun i d e => let ⟨v, a, b⟩ := h.at_ i d e; ⟨v, a, b.mono l⟩⟩
theorem RS.set {K : PySem.W.Frag} {wd : Wd} {τ : Sl} {σ : St} (h : RS K wd τ σ) {d : D} {v : V} (i : Nat) (r : Rp K wd d v) : RS K wd (τ.set i (some d)) (σ.set i (some v)) := by
  refine ⟨by simp [h.len], fun j e q => ?_⟩
  rw [getV_eq] at q
  by_cases hj : j = i
  · subst hj
    by_cases hl : j < τ.length
    · rw [List.getElem?_set_self hl] at q
      have : d = e := Option.some.inj q
      subst this
      exact ⟨v, List.getElem?_set_self (by rw [← h.len]; exact hl), r⟩
    · rw [List.getElem?_eq_none (by simp; omega)] at q
      cases q
  · rw [List.getElem?_set_ne (Ne.symm hj), ← getV_eq] at q
    rw [List.getElem?_set_ne (Ne.symm hj)]
    exact h.at_ j e q
/-- the same tree, told otherwise -/
theorem RS.swap {K : PySem.W.Frag} {wd : Wd} {τ : Sl} {σ : St} (h : RS K wd τ σ) {d : D} {v : V} (i : Nat) (e : σ[i]? = some (some v)) (r : Rp K wd d v) : RS K wd (τ.set i (some d)) σ := by
  have q := h.set i r
  have z : σ.set i (some v) = σ := by
    obtain ⟨hl, hv⟩ := List.getElem?_eq_some_iff.mp e
    apply List.ext_getElem?
    intro j
    by_cases hj : j = i
    · subst hj
      rw [List.getElem?_set_self hl, e]
    · rw [List.getElem?_set_ne (Ne.symm hj)]
  rw [z] at q
  exact q
/-- forgetting -/
theorem RS.drop {K : PySem.W.Frag} {wd : Wd} {τ τ' : Sl} {σ : St} (h : RS K wd τ σ) (hl : τ'.length = τ.length) (w : ∀ i d, getV τ' i = some d → getV τ i = some d) : RS K wd τ' σ :=
  ⟨hl.trans h.len, fun i d e => h.at_ i d (w i d e)⟩

/-- an error as it lies -/
def RpX (K : PySem.W.Frag) (mg : Str → Option Value) (wd : Wd) (x : Er) (cls : Value) (dd : Option Addr) : Prop :=
  ∃ C a vs, mg x.tag = some (.ref C) ∧ cls = .ref C ∧ dd = some a ∧ wd.B a = some (.xd vs) ∧ vs.map (·.1) = x.fs.map (·.1) ∧ RpL K wd (x.fs.map (·.2)) (vs.map (·.2))
/-- the errors' end: what X asks is what W asks -/
def XOk (X : Cx) (W : WX) (wd : Wd) (F : Hp) (σ : St) (P : KX) : Prop :=
  ∀ wd' x cs cls dd H, wd.le wd' → Rl X.K wd' F cs H → RpX X.K X.mg wd' x cls dd → P x cs → W cls dd σ H
theorem XOk.mono {X : Cx} {W : WX} {wd wd' : Wd} {F : Hp} {σ : St} {P : KX} (h : XOk X W wd F σ P) (l : wd.le wd') : XOk X W wd' F σ P :=
  fun wd2 x cs cls dd H l2 => h wd2 x cs cls dd H (l.trans l2)
def QOk (K : PySem.W.Frag) (wd : Wd) (F : Hp) (P : KD) (Q : VK) : Prop :=
  ∀ wd' d cs v H, wd.le wd' → Rl K wd' F cs H → Rp K wd' d v → P d cs → Q v H
theorem QOk.mono {K : PySem.W.Frag} {wd wd' : Wd} {F : Hp} {P : KD} {Q : VK} (h : QOk K wd F P Q) (l : wd.le wd') : QOk K wd' F P Q :=
  fun wd2 d cs v H l2 => h wd2 d cs v H (l.trans l2)

def RefE (X : Cx) (W : WX) (te : TE) (c : E) : Prop := ∀ wd F τ cs σ H (P : KD) (PX : KX) (Q : VK), Rl X.K wd F cs H → RS X.K wd τ σ → wpE c τ cs P PX → QOk X.K wd F P Q → XOk X W wd F σ PX → te σ H Q
def RefT (X : Cx) (W : WX) (tt : TT) (c : E) : Prop := ∀ wd F τ cs σ H (P : KD) (PX : KX) (Q : Bool → Hp → Prop), Rl X.K wd F cs H → RS X.K wd τ σ → wpE c τ cs P PX →
  (∀ wd' d cs' H', wd.le wd' → Rl X.K wd' F cs' H' → P d cs' → ∃ k, d = .bl k ∧ Q k H') → XOk X W wd F σ PX → tt σ H Q
def RefA (X : Cx) (W : WX) (ta : TA) (c : Es) : Prop := ∀ wd F τ cs σ H (P : List D → Cs → Prop) (PX : KX) (Q : List V → Hp → Prop), Rl X.K wd F cs H → RS X.K wd τ σ → wpEs c τ cs P PX →
  (∀ wd' ds cs' vs H', wd.le wd' → Rl X.K wd' F cs' H' → RpL X.K wd' ds vs → P ds cs' → Q vs H') → XOk X W wd F σ PX → ta σ H Q
/-- the ends of a statement -/
structure EOk (X : Cx) (W : WX) (wd : Wd) (F : Hp) (P : G.Ends) (Q : L2.Ends) : Prop where
  nx : ∀ wd' τ cs σ H, wd.le wd' → Rl X.K wd' F cs H → RS X.K wd' τ σ → P.nx τ cs → Q.nx σ H
  bk : ∀ wd' τ cs σ H, wd.le wd' → Rl X.K wd' F cs H → RS X.K wd' τ σ → P.bk τ cs → Q.bk σ H
  ct : ∀ wd' τ cs σ H, wd.le wd' → Rl X.K wd' F cs H → RS X.K wd' τ σ → P.ct τ cs → Q.ct σ H
  rt : ∀ wd' d cs v H, wd.le wd' → Rl X.K wd' F cs H → Rp X.K wd' d v → P.rt d cs → Q.rt v H
  ex : ∀ wd' x τ cs σ cls dd H, wd.le wd' → Rl X.K wd' F cs H → RS X.K wd' τ σ → RpX X.K X.mg wd' x cls dd → P.ex x τ cs → W cls dd σ H
theorem EOk.mono {X : Cx} {W : WX} {wd wd' : Wd} {F : Hp} {P : G.Ends} {Q : L2.Ends} (h : EOk X W wd F P Q) (l : wd.le wd') : EOk X W wd' F P Q :=
  ⟨fun a τ cs σ H k => h.nx a τ cs σ H (l.trans k), fun a τ cs σ H k => h.bk a τ cs σ H (l.trans k), fun a τ cs σ H k => h.ct a τ cs σ H (l.trans k), fun a d cs v H k => h.rt a d cs v H (l.trans k), fun a x τ cs σ cls dd H k => h.ex a x τ cs σ cls dd H (l.trans k)⟩
theorem EOk.xok {X : Cx} {W : WX} {wd : Wd} {F : Hp} {P : G.Ends} {Q : L2.Ends} (h : EOk X W wd F P Q) {τ : Sl} {σ : St} (r : RS X.K wd τ σ) : XOk X W wd F σ (fun x cs => P.ex x τ cs) :=
  fun wd' x cs cls dd H l R rx p => h.ex wd' x τ cs σ cls dd H l R (r.mono l) rx p
def RefS (X : Cx) (W : WX) (ts : TS) (c : S) : Prop := ∀ wd F τ cs σ H (P : G.Ends) (Q : L2.Ends), Rl X.K wd F cs H → RS X.K wd τ σ → wpS c τ cs P → EOk X W wd F P Q → ts Q σ H

def JE (X : Cx) (W : WX) (e : Expr) (c : E) : Prop := ∃ te, PE X e te ∧ RefE X W te c
def JT (X : Cx) (W : WX) (e : Expr) (c : E) : Prop := ∃ tt, PT X e tt ∧ RefT X W tt c
def JA (X : Cx) (W : WX) (es : List Expr) (c : Es) : Prop := ∃ ta, PA X es ta ∧ RefA X W ta c
def JS (X : Cx) (W : WX) (st : Stmt) (c : S) : Prop := ∃ ts, PS X st ts ∧ RefS X W ts c
def JSs (X : Cx) (W : WX) (st : List Stmt) (c : S) : Prop := ∃ ts, PSs X st ts ∧ RefS X W ts c

section
variable {X : Cx} {W : WX} {pos : Pos}

/-! ### names, constants -/
theorem j_v (i : Nat) {x : Str} (hN : X.N[i]? = some x := by rfl) (hv : Vis X.env.scope x := by first | exact Or.inl rfl | exact Or.inr (Or.inl rfl) | exact Or.inr (Or.inr rfl)) (hd : (x == ("__debug__" : Str)) = false := by decide)
    (hcd : (x == ("__classdict__" : Str)) = false := by decide) : JE X W (.Name x pos) (.v i) := by
  refine ⟨_, pe_var (i := i) hN hv hd hcd, fun wd F τ cs σ H P PX Q R r h q x => ?_⟩
  have h : (match getV τ i with
    | some d => P d cs
    | none => False) := h
  cases e : getV τ i with
  | none =>
    rw [e] at h
    exact h.elim
  | some d =>
    rw [e] at h
    obtain ⟨v, a, b⟩ := r.at_ i d e
    exact ⟨v, a, q wd d cs v H (Wd.le.refl _) R b h⟩
theorem j_int {i : Int} {j} : JE X W (.Constant (.int i) j pos) (.c (.int i)) := ⟨_, pe_int, fun wd F τ cs σ H P PX Q R r h q x => q wd (.int i) cs _ H (Wd.le.refl _) R rfl h⟩
theorem j_bl {b : Bool} {j} : JE X W (.Constant (.bool b) j pos) (.c (.bl b)) := ⟨_, pe_bl, fun wd F τ cs σ H P PX Q R r h q x => q wd (.bl b) cs _ H (Wd.le.refl _) R rfl h⟩
theorem j_non {j} : JE X W (.Constant .none j pos) (.c .non) := ⟨_, pe_non, fun wd F τ cs σ H P PX Q R r h q x => q wd .non cs _ H (Wd.le.refl _) R rfl h⟩
theorem j_str {s : Str} {j} : JE X W (.Constant (.str s) j pos) (.c (.str s)) := ⟨_, pe_str, fun wd F τ cs σ H P PX Q R r h q x => q wd (.str s) cs _ H (Wd.le.refl _) R rfl h⟩
/-- a module's constant -/
theorem j_glob {x : Str} {d : D} {v : V} {u : Value} (hg : Gl X x) (hm : X.mg x = some u) (r : RelV v u) (hr : ∀ wd, Rp X.K wd d v) (hd : (x == ("__debug__" : Str)) = false := by decide) : JE X W (.Name x pos) (.c d) :=
  ⟨_, pe_glob hg hm r hd, fun wd F τ cs σ H P PX Q R _ h q x => q wd _ cs _ H (Wd.le.refl _) R (hr wd) h⟩

/-! ### arguments -/
theorem ja_nil : JA X W [] .nil := ⟨_, pa_nil, fun wd F τ cs σ H P PX Q R r h q x => q wd [] cs [] H (Wd.le.refl _) R rfl h⟩
theorem ja_cons {e : Expr} {es : List Expr} {c : E} {cs : Es} (h1 : JE X W e c) (h2 : JA X W es cs) (hs : starEach (e :: es) X.env = (false, eval e X.env) :: starEach es X.env := by rfl) : JA X W (e :: es) (.cons c cs) := by
  obtain ⟨te, p1, r1⟩ := h1
  obtain ⟨ta, p2, r2⟩ := h2
  refine ⟨_, pa_cons p1 p2 hs, fun wd F τ cs σ H P PX Q R r h q x => ?_⟩
  refine r1 wd F τ cs σ H _ PX _ R r h (fun wd1 d c1 v H1 l1 R1 rv h1 => ?_) x
  refine r2 wd1 F τ c1 σ H1 _ PX _ R1 (r.mono l1) h1 (fun wd2 ds c2 vs H2 l2 R2 rvs h2 => ?_) (x.mono l1)
  exact q wd2 (d :: ds) c2 (v :: vs) H2 (l1.trans l2) R2 ⟨v, vs, rfl, rv.mono l2, rvs⟩ h2

/-! ### operations by values -/
/-- what a rule on values asks is what the core's asks -/
def Ref2 (K : PySem.W.Frag) (r : R2) (sp : Spec) : Prop := ∀ wd F cs H x y v w (P : KD) (PX : KX) (Q : VK), Rl K wd F cs H → Rp K wd x v → Rp K wd y w → sp [x, y] cs P PX → QOk K wd F P Q → r v w H Q
def RefN (K : PySem.W.Frag) (r : List V → Hp → VK → Prop) (sp : Spec) : Prop := ∀ wd F cs H ds vs (P : KD) (PX : KX) (Q : VK), Rl K wd F cs H → RpL K wd ds vs → sp ds cs P PX → QOk K wd F P Q → r vs H Q
def Ref1 (K : PySem.W.Frag) (r : V → Hp → VK → Prop) (sp : Spec) : Prop := ∀ wd F cs H x v (P : KD) (PX : KX) (Q : VK), Rl K wd F cs H → Rp K wd x v → sp [x] cs P PX → QOk K wd F P Q → r v H Q
variable {a b e : Expr} {ca cb cc : E} {sp sp' : Spec}
theorem ref_bin {r : R2} {ta tb : TE} (hr : Ref2 X.K r sp) (ha : RefE X W ta ca) (hb : RefE X W tb cb) : RefE X W (tOp r ta tb) (.app sp (.cons ca (.cons cb .nil))) := by
  intro wd F τ cs σ H P PX Q R rs h q x
  refine ha wd F τ cs σ H _ PX _ R rs h (fun wd1 d1 c1 v1 H1 l1 R1 rv1 h1 => ?_) x
  refine hb wd1 F τ c1 σ H1 _ PX _ R1 (rs.mono l1) h1 (fun wd2 d2 c2 v2 H2 l2 R2 rv2 h2 => ?_) (x.mono l1)
  exact hr wd2 F c2 H2 d1 d2 v1 v2 P PX Q R2 (rv1.mono l2) rv2 h2 (q.mono (l1.trans l2))
theorem j_op {op : Operator} {r : R2} (ho : OpR X (binaryOp op) r) (hr : Ref2 X.K r sp) (ha : JE X W a ca) (hb : JE X W b cb) : JE X W (.BinOp a op b pos) (.app sp (.cons ca (.cons cb .nil))) := by
  obtain ⟨ta, p1, r1⟩ := ha
  obtain ⟨tb, p2, r2⟩ := hb
  exact ⟨_, pe_op ho p1 p2, ref_bin hr r1 r2⟩
theorem j_un {op : UnaryOp} {r : V → Hp → VK → Prop} (ho : UnR X (unaryOp op) r) (hr : Ref1 X.K r sp) (ha : JE X W a ca) : JE X W (.UnaryOp op a pos) (.app sp (.cons ca .nil)) := by
  obtain ⟨ta, p1, r1⟩ := ha
  refine ⟨_, pe_un ho p1, fun wd F τ cs σ H P PX Q R rs h q x => ?_⟩
  refine r1 wd F τ cs σ H _ PX _ R rs h (fun wd1 d1 c1 v1 H1 l1 R1 rv1 h1 => ?_) x
  exact hr wd1 F c1 H1 d1 v1 P PX Q R1 rv1 h1 (q.mono l1)
theorem j_cmp {op : CmpOp} {r : R2} (ho : OpR X (compareOp op) r) (hr : Ref2 X.K r sp) (ha : JE X W a ca) (hb : JE X W b cb) (hm : behindInMarks op b = false) : JE X W (.Compare a [op] [b] pos) (.app sp (.cons ca (.cons cb .nil))) := by
  obtain ⟨ta, p1, r1⟩ := ha
  obtain ⟨tb, p2, r2⟩ := hb
  exact ⟨_, pe_cmpR ho p1 p2 hm, ref_bin hr r1 r2⟩
/-- a value that is a bool, as a test -/
theorem ref_test {te : TE} {c : E} (h : RefE X W te c) : RefT X W (tTest te) c := by
  intro wd F τ cs σ H P PX Q R rs h1 q x
  refine h wd F τ cs σ H _ PX _ R rs h1 (fun wd1 d1 c1 v1 H1 l1 R1 rv1 h1 => ?_) x
  obtain ⟨k, e, hp⟩ := q wd1 d1 c1 H1 l1 R1 h1
  subst e
  exact ⟨k, rv1, hp⟩
theorem jt_cmp {op : CmpOp} {r : R2} (ho : OpR X (compareOp op) r) (hr : Ref2 X.K r sp) (ha : JE X W a ca) (hb : JE X W b cb) (hm : behindInMarks op b = false) : JT X W (.Compare a [op] [b] pos) (.app sp (.cons ca (.cons cb .nil))) := by
  obtain ⟨ta, p1, r1⟩ := ha
  obtain ⟨tb, p2, r2⟩ := hb
  exact ⟨_, pt_cmpR ho p1 p2 hm, ref_test (ref_bin hr r1 r2)⟩
end
end G

/-! GRules: operators, tests, displays, subscripts, calls of built-ins. -/
namespace G
open PySem PySem.Spec L2
open Evl (Ex)

section
variable {K : PySem.W.Frag}
theorem Rp.int {wd : Wd} {i : Int} {v : V} (h : Rp K wd (.int i) v) : v = .int i := h
theorem Rp.scalar {wd : Wd} {d : D} {v : V} (h : Rp K wd d v) (hv : ∀ a, v ≠ .ref a) : flat d = true := by
  cases d with
  | tup ds => obtain ⟨a, _, e, _⟩ := h; exact absurd e (hv a)
  | lst ds => obtain ⟨a, _, e, _⟩ := h; exact absurd e (hv a)
  | dic _ _ => obtain ⟨a, _, e, _⟩ := h; exact absurd e (hv a)
  | ref n => obtain ⟨a, _, e⟩ := h; exact absurd e (hv a)
  | scr => obtain ⟨a, _, e, _⟩ := h; exact absurd e (hv a)
  | clo _ _ _ => obtain ⟨a, _, _, e, _⟩ := h; exact absurd e (hv a)
  | _ => rfl
theorem sInt_inv {C : Int → Int → Prop} {f : Int → Int → D} {x y : D} {cs : Cs} {Q : KD} {PX : KX} (h : sInt C f [x, y] cs Q PX) : ∃ i j, x = .int i ∧ y = .int j ∧ C i j ∧ Q (f i j) cs := by
  cases x with
  | int i =>
    cases y with
    | int j => exact ⟨i, j, rfl, rfl, h.1, h.2⟩
    | _ => exact h.elim
  | _ => exact h.elim
theorem ref_int {C C' : Int → Int → Prop} {f : Int → Int → D} {g : Int → Int → V} (hC : ∀ i j, C i j → C' i j) (h : ∀ wd i j, Rp K wd (f i j) (g i j)) : Ref2 K (rI C' g) (sInt C f) := by
  intro wd F cs H x y v w P PX Q R rx ry hs q
  obtain ⟨i, j, e1, e2, hc, hp⟩ := sInt_inv hs
  subst e1 e2
  exact ⟨i, j, rx, ry, hC i j hc, q wd _ cs _ H (Wd.le.refl _) R (h wd i j) hp⟩
theorem ref_int0 {f : Int → Int → D} {g : Int → Int → V} (h : ∀ wd i j, Rp K wd (f i j) (g i j)) : Ref2 K (rI0 g) (sInt CTrue f) := by
  intro wd F cs H x y v w P PX Q R rx ry hs q
  obtain ⟨i, j, e1, e2, hc, hp⟩ := sInt_inv hs
  subst e1 e2
  exact ⟨i, j, rx, ry, q wd _ cs _ H (Wd.le.refl _) R (h wd i j) hp⟩
end
section
variable {X : Cx} {W : WX} {pos : Pos} {a b c e : Expr} {ca cb cc ce : E}

/-! ### arithmetic -/
def CMulA (i j : Int) : Prop := CMul i j ∨ CMulW i j
theorem op_mulA : OpR X (binaryOp .Mult) (rI CMulA fun i j => .int (i * j)) := by
  intro pins s σ H x y v u Q I r1 r2 h
  obtain ⟨i, j, e1, e2, hc, q⟩ := h
  rcases hc with hc | hc
  · exact op_mul pins s σ H x y v u Q I r1 r2 ⟨i, j, e1, e2, hc, q⟩
  · exact op_mulW pins s σ H x y v u Q I r1 r2 ⟨i, j, e1, e2, hc, q⟩
theorem mulA_of {i j : Int} (h : mulOk i j) : CMulA i j := by
  unfold mulOk at h
  unfold CMulA CMul CMulW
  rcases h with h | h | h
  · exact .inl (.inl h)
  · exact .inl (.inr h)
  · exact .inr h
theorem j_sub (ha : JE X W a ca) (hb : JE X W b cb) : JE X W (.BinOp a .Sub b pos) (.app sSub (.cons ca (.cons cb .nil))) := j_op op_sub (ref_int0 fun _ _ _ => rfl) ha hb
theorem j_mul (ha : JE X W a ca) (hb : JE X W b cb) : JE X W (.BinOp a .Mult b pos) (.app sMul (.cons ca (.cons cb .nil))) := j_op op_mulA (ref_int (fun _ _ h => mulA_of h) fun _ _ _ => rfl) ha hb
theorem j_div (ha : JE X W a ca) (hb : JE X W b cb) : JE X W (.BinOp a .FloorDiv b pos) (.app sDiv (.cons ca (.cons cb .nil))) := j_op op_fdivW (ref_int (C' := CDivW) (fun _ _ h => h) fun _ _ _ => rfl) ha hb
theorem j_mod (ha : JE X W a ca) (hb : JE X W b cb) : JE X W (.BinOp a .Mod b pos) (.app sMod (.cons ca (.cons cb .nil))) := j_op op_mod (ref_int (fun _ _ h => h) fun _ _ _ => rfl) ha hb
theorem j_pow (ha : JE X W a ca) (hb : JE X W b cb) : JE X W (.BinOp a .Pow b pos) (.app sPow (.cons ca (.cons cb .nil))) := j_op op_pow (ref_int (C' := CPow) (fun _ _ h => h) fun _ _ _ => rfl) ha hb
theorem j_neg (ha : JE X W a ca) : JE X W (.UnaryOp .USub a pos) (.app sNeg (.cons ca .nil)) := by
  refine j_un un_neg ?_ ha
  intro wd F cs H x v P PX Q R rx hs q
  cases x with
  | int i => exact ⟨i, rx, q wd (.int (-i)) cs _ H (Wd.le.refl _) R rfl hs⟩
  | _ => exact hs.elim
theorem sizeL : sizeLine = lim := sizeLine_eq
end
end G

namespace G
open PySem PySem.Spec L2
open Evl (Ex)
section
variable {K : PySem.W.Frag} {wd : Wd} {F H : Hp} {cs : Cs}
/-- a new list in H: as a tree -/
theorem Rl.lst (R : Rl K wd F cs H) {p : Addr} (hp : H p = none) {ds : List D} {vs : List V} (r : RpL K wd ds vs) :
    ∃ wd', wd.le wd' ∧ Rl K wd' F cs (upd H p (.lst vs)) ∧ Rp K wd' (.lst ds) (.ref p) := by
  obtain ⟨R', le⟩ := R.new hp (.lst vs)
  exact ⟨_, le, R', p, vs, rfl, upd_same, RpL.mono le _ _ r⟩
theorem Rl.tup (R : Rl K wd F cs H) {p : Addr} (hp : H p = none) {ds : List D} {vs : List V} (r : RpL K wd ds vs) :
    ∃ wd', wd.le wd' ∧ Rl K wd' F cs (upd H p (.tup vs)) ∧ Rp K wd' (.tup ds) (.ref p) := by
  obtain ⟨R', le⟩ := R.new hp (.tup vs)
  exact ⟨_, le, R', p, vs, rfl, upd_same, RpL.mono le _ _ r⟩
/-- .. as a cell -/
theorem Rl.cellL (R : Rl K wd F cs H) {p : Addr} (hp : H p = none) {ds : List D} {vs : List V} (r : RpL K wd ds vs) :
    ∃ n wd', cs n = none ∧ wd.le wd' ∧ Rl K wd' F (put cs n (.lst ds)) (upd H p (.lst vs)) ∧ Rp K wd' (.ref n) (.ref p) := by
  obtain ⟨n, wd', hn, le, hr, R'⟩ := R.cellNew hp (o := .lst ds) ⟨vs, rfl, r⟩
  exact ⟨n, wd', hn, le, R', p, hr, rfl⟩
end
section
variable {X : Cx} {W : WX} {pos : Pos} {a b c e : Expr} {ca cb cc ce : E}
/-! ### + -/
def rAddA (K : PySem.W.Frag) : R2 := fun x y H Q => ((rI0 (fun i j => .int (i + j)) x y H Q ∨ (∃ i j, x = .str i ∧ y = .str j ∧ i.length + j.length ≤ sizeLine ∧ Q (.str (i ++ j)) H)) ∨ rCat x y H Q) ∨ rCatT K x y H Q
theorem op_addA : OpR X (binaryOp .Add) (rAddA X.K) := ((op_add.or op_add_str).or op_cat).or op_catT
theorem ref_add : Ref2 X.K (rAddA X.K) sAdd := by
  intro wd F cs H x y v w P PX Q R rx ry hs q
  have lists : ∀ {x y}, Rp X.K wd x v → Rp X.K wd y w → (match getL x cs, getL y cs with
    | some a, some b => a.length + b.length ≤ lim ∧ P (.lst (a ++ b)) cs
    | _, _ => False) → rCat v w H Q := fun {x y} rx ry h => by
    cases ex : getL x cs with
    | none =>
      rw [ex] at h
      exact h.elim
    | some xs =>
      cases ey : getL y cs with
      | none =>
        rw [ex, ey] at h
        exact h.elim
      | some ys =>
        rw [ex, ey] at h
        obtain ⟨a1, vs, e1, h1, r1⟩ := R.getL rx ex
        obtain ⟨a2, ws, e2, h2, r2⟩ := R.getL ry ey
        refine ⟨a1, a2, vs, ws, e1, e2, h1, h2, by rw [r1.length, r2.length, sizeL]; exact h.1, fun p hp => ?_⟩
        obtain ⟨wd', le, R', rp⟩ := R.lst hp (r1.append r2)
        exact q wd' _ cs _ _ le R' rp h.2
  cases x with
  | int i =>
    cases y with
    | int j => exact .inl (.inl (.inl ⟨i, j, rx, ry, q wd (.int (i + j)) cs _ H (Wd.le.refl _) R rfl hs⟩))
    | _ => exact hs.elim
  | str i =>
    cases y with
    | str j => exact .inl (.inl (.inr ⟨i, j, rx, ry, by rw [sizeL]; exact hs.1, q wd (.str (i ++ j)) cs _ H (Wd.le.refl _) R rfl hs.2⟩))
    | _ => exact hs.elim
  | tup xs =>
    cases y with
    | tup ys =>
      obtain ⟨a1, vs, e1, h1, r1⟩ := rx
      obtain ⟨a2, ws, e2, h2, r2⟩ := ry
      have ne : vs ≠ [] := fun z => hs.1 (List.length_eq_zero_iff.mp (by rw [← r1.length, z]; rfl))
      refine .inr ⟨a1, a2, vs, ws, e1, e2, SqT.of (R.b _ _ h1), SqT.of (R.b _ _ h2), ne, by rw [r1.length, r2.length, sizeL]; exact hs.2.1, fun z => ?_, fun z p hp => ?_⟩
      · have ey : ys = [] := List.length_eq_zero_iff.mp (by rw [← r2.length, z]; rfl)
        have e3 := hs.2.2
        rw [ey, List.append_nil] at e3
        have := q wd (.tup xs) cs v H (Wd.le.refl _) R ⟨a1, vs, e1, h1, r1⟩ e3
        rw [e1] at this
        exact this
      · obtain ⟨wd', le, R', rp⟩ := R.tup hp (r1.append r2)
        exact q wd' _ cs _ _ le R' rp hs.2.2
    | _ => exact hs.elim
  | lst xs => exact .inl (.inr (lists (x := .lst xs) rx ry (by cases y <;> exact hs)))
  | ref n => exact .inl (.inr (lists (x := .ref n) rx ry (by cases y <;> exact hs)))
  | _ => exact absurd hs (by cases y <;> exact fun z => z)
theorem j_add (ha : JE X W a ca) (hb : JE X W b cb) : JE X W (.BinOp a .Add b pos) (.app sAdd (.cons ca (.cons cb .nil))) := j_op op_addA ref_add ha hb

/-! ### comparisons of ints -/
theorem j_lt (ha : JE X W a ca) (hb : JE X W b cb) : JE X W (.Compare a [.Lt] [b] pos) (.app sLt (.cons ca (.cons cb .nil))) := j_cmp op_lt (ref_int0 fun _ _ _ => rfl) ha hb (nomark _)
theorem j_le (ha : JE X W a ca) (hb : JE X W b cb) : JE X W (.Compare a [.LtE] [b] pos) (.app sLe (.cons ca (.cons cb .nil))) := j_cmp op_le (ref_int0 fun _ _ _ => rfl) ha hb (nomark _)
theorem j_gt (ha : JE X W a ca) (hb : JE X W b cb) : JE X W (.Compare a [.Gt] [b] pos) (.app sGt (.cons ca (.cons cb .nil))) := j_cmp op_gt (ref_int0 fun _ _ _ => rfl) ha hb (nomark _)
theorem j_ge (ha : JE X W a ca) (hb : JE X W b cb) : JE X W (.Compare a [.GtE] [b] pos) (.app sGe (.cons ca (.cons cb .nil))) := j_cmp op_ge (ref_int0 fun _ _ _ => rfl) ha hb (nomark _)
theorem jt_lt (ha : JE X W a ca) (hb : JE X W b cb) : JT X W (.Compare a [.Lt] [b] pos) (.app sLt (.cons ca (.cons cb .nil))) := jt_cmp op_lt (ref_int0 fun _ _ _ => rfl) ha hb (nomark _)
theorem jt_le (ha : JE X W a ca) (hb : JE X W b cb) : JT X W (.Compare a [.LtE] [b] pos) (.app sLe (.cons ca (.cons cb .nil))) := jt_cmp op_le (ref_int0 fun _ _ _ => rfl) ha hb (nomark _)
theorem jt_gt (ha : JE X W a ca) (hb : JE X W b cb) : JT X W (.Compare a [.Gt] [b] pos) (.app sGt (.cons ca (.cons cb .nil))) := jt_cmp op_gt (ref_int0 fun _ _ _ => rfl) ha hb (nomark _)
theorem jt_ge (ha : JE X W a ca) (hb : JE X W b cb) : JT X W (.Compare a [.GtE] [b] pos) (.app sGe (.cons ca (.cons cb .nil))) := jt_cmp op_ge (ref_int0 fun _ _ _ => rfl) ha hb (nomark _)

/-! ### == of data -/
mutual
def toP : D → PyData
  | .non => .none
  | .bl b => .bool b
  | .int i => .int i
  | .str s => .str s
  | .tup xs => .tuple (toPs xs)
  | .lst xs => .list (toPs xs)
  | .dic _ _ => .none
  | .ref _ => .none
  | .scr => .none
  | .clo _ _ _ => .none
def toPs : List D → List PyData
  | [] => []
  | x :: xs => toP x :: toPs xs
end
theorem pur_purs {b : Bool} {k : Nat} {xs : List D} (h : (b && purs k xs) = true) : purs k xs = true := by
  rw [Bool.and_eq_true] at h
  exact h.2
mutual
theorem pur_lay : ∀ (k : Nat) (d : D), pur k d = true → (toP d).canLay0 = true ∧ (toP d).depth ≤ k
  | k, .non, _ => ⟨rfl, Nat.zero_le _⟩
  | k, .bl _, _ => ⟨rfl, Nat.zero_le _⟩
  | k, .int _, _ => ⟨rfl, Nat.zero_le _⟩
  | k, .str s, h => by
    have h : strOk s = true := by cases k <;> exact h
    exact ⟨h, Nat.zero_le _⟩
  | k + 1, .lst xs, h => by
    have h : purs k xs = true := pur_purs h
    obtain ⟨h1, h2⟩ := purs_lay k xs h
    exact ⟨by simpa [toP, PyData.canLay0] using h1, by simp only [toP, PyData.depth]; omega⟩
  | k + 1, .tup xs, h => by
    have h : purs k xs = true := pur_purs h
    obtain ⟨h1, h2⟩ := purs_lay k xs h
    exact ⟨by simpa [toP, PyData.canLay0] using h1, by simp only [toP, PyData.depth]; omega⟩
  | 0, .lst xs, h => by cases h
  | 0, .tup xs, h => by cases h
  | k, .dic _ _, h => by cases k <;> cases h
  | k, .ref _, h => by cases k <;> cases h
  | k, .scr, h => by cases k <;> cases h
  | k, .clo _ _ _, h => by cases k <;> cases h
theorem purs_lay : ∀ (k : Nat) (ds : List D), purs k ds = true → PyData.canLayAll0 (toPs ds) = true ∧ PyData.depthAll (toPs ds) ≤ k
  | k, [], _ => ⟨rfl, Nat.zero_le _⟩
  | k, d :: ds, h => by
    have h : (pur k d && purs k ds) = true := h
    rw [Bool.and_eq_true] at h
    obtain ⟨h1, h2⟩ := pur_lay k d h.1
    obtain ⟨h3, h4⟩ := purs_lay k ds h.2
    exact ⟨by simp [toPs, PyData.canLayAll0, h1, h3], by simp only [toPs, PyData.depthAll]; omega⟩
end
theorem pur_shaped {d : D} (h : pur 64 d = true) : SeqAt.shaped (toP d) = true := by
  obtain ⟨h1, h2⟩ := pur_lay 64 d h
  unfold SeqAt.shaped
  rw [h1, decide_eq_true h2]
  rfl
mutual
theorem eqD_eqv : ∀ (k j : Nat) (x y : D), pur k x = true → pur j y = true → eqD x y = PyData.eqv (toP x) (toP y)
  | k, j, .non, y, _, hy => by cases y <;> first | (cases j <;> cases hy; done) | simp [eqD, toP, PyData.eqv]
  | k, j, .bl a, y, _, hy => by cases y <;> first | (cases j <;> cases hy; done) | simp [eqD, toP, PyData.eqv]
  | k, j, .int a, y, _, hy => by cases y <;> first | (cases j <;> cases hy; done) | simp [eqD, toP, PyData.eqv]
  | k, j, .str a, y, _, hy => by cases y <;> first | (cases j <;> cases hy; done) | simp [eqD, toP, PyData.eqv]
  | k + 1, j, .lst xs, y, hx, hy => by
    have hx : purs k xs = true := pur_purs hx
    cases y with
    | lst ys =>
      cases j with
      | zero => cases hy
      | succ j =>
        have hy : purs j ys = true := pur_purs hy
        simp only [eqD, toP, PyData.eqv]
        exact eqDs_eqv k j xs ys hx hy
    | _ => first | (cases j <;> cases hy; done) | simp [eqD, toP, PyData.eqv]
  | k + 1, j, .tup xs, y, hx, hy => by
    have hx : purs k xs = true := pur_purs hx
    cases y with
    | tup ys =>
      cases j with
      | zero => cases hy
      | succ j =>
        have hy : purs j ys = true := pur_purs hy
        simp only [eqD, toP, PyData.eqv]
        exact eqDs_eqv k j xs ys hx hy
    | _ => first | (cases j <;> cases hy; done) | simp [eqD, toP, PyData.eqv]
  | 0, _, .lst xs, _, h, _ => by cases h
  | 0, _, .tup xs, _, h, _ => by cases h
  | k, _, .dic _ _, _, h, _ => by cases k <;> cases h
  | k, _, .ref _, _, h, _ => by cases k <;> cases h
  | k, _, .scr, _, h, _ => by cases k <;> cases h
  | k, _, .clo _ _ _, _, h, _ => by cases k <;> cases h
theorem eqDs_eqv : ∀ (k j : Nat) (xs ys : List D), purs k xs = true → purs j ys = true → eqDs xs ys = PyData.eqvAll (toPs xs) (toPs ys)
  | k, j, [], [], _, _ => rfl
  | k, j, [], _ :: _, _, _ => rfl
  | k, j, _ :: _, [], _, _ => rfl
  | k, j, x :: xs, y :: ys, hx, hy => by
    have hx : (pur k x && purs k xs) = true := hx
    have hy : (pur j y && purs j ys) = true := hy
    rw [Bool.and_eq_true] at hx hy
    simp only [eqDs, toPs, PyData.eqvAll, eqD_eqv k j x y hx.1 hy.1, eqDs_eqv k j xs ys hx.2 hy.2]
end
mutual
theorem dp_of {K : PySem.W.Frag} {wd : Wd} {H : Hp} (b : Ex wd.B H) : ∀ (k : Nat) (d : D) (v : V), pur k d = true → Rp K wd d v → Dp K H v (toP d)
  | k, .non, v, _, r => by cases (show v = _ from r); exact .non
  | k, .bl x, v, _, r => by cases (show v = _ from r); exact .bl x
  | k, .int x, v, _, r => by cases (show v = _ from r); exact .int x
  | k, .str x, v, _, r => by cases (show v = _ from r); exact .str x
  | k + 1, .lst xs, v, h, r => by
    obtain ⟨a, vs, e, s, q⟩ := r
    subst e
    exact .lst (SqL.of (b a _ s)) (dps_of b k xs vs (pur_purs h) q)
  | k + 1, .tup xs, v, h, r => by
    obtain ⟨a, vs, e, s, q⟩ := r
    subst e
    exact .tup (SqT.of (b _ _ s)) (dps_of b k xs vs (pur_purs h) q)
  | 0, .lst xs, _, h, _ => by cases h
  | 0, .tup xs, _, h, _ => by cases h
  | k, .dic _ _, _, h, _ => by cases k <;> cases h
  | k, .ref _, _, h, _ => by cases k <;> cases h
  | k, .scr, _, h, _ => by cases k <;> cases h
  | k, .clo _ _ _, _, h, _ => by cases k <;> cases h
theorem dps_of {K : PySem.W.Frag} {wd : Wd} {H : Hp} (b : Ex wd.B H) : ∀ (k : Nat) (ds : List D) (vs : List V), purs k ds = true → RpL K wd ds vs → DpAll K H vs (toPs ds)
  | k, [], vs, _, r => by
    cases (show vs = _ from r)
    exact .nil
  | k, d :: ds, vs, h, r => by
    have h : (pur k d && purs k ds) = true := h
    rw [Bool.and_eq_true] at h
    obtain ⟨v, r', e, r1, r2⟩ := r
    subst e
    exact .cons (dp_of b k d v h.1 r1) (dps_of b k ds r' h.2 r2)
end
theorem deref_none {cs : Cs} {n : Nat} (h : getL (.ref n) cs = none) : deref cs (.ref n) = .ref n := by
  have h : (match cs n with
      | some (.lst xs) => some xs
      | _ => none) = none := h
  show (match cs n with
      | some (.lst xs) => D.lst xs
      | _ => .ref n) = .ref n
  split at h <;> simp_all
theorem deref_some {cs : Cs} {n : Nat} {xs : List D} (h : getL (.ref n) cs = some xs) : deref cs (.ref n) = .lst xs := by
  have h : (match cs n with
      | some (.lst xs) => some xs
      | _ => none) = some xs := h
  show (match cs n with
      | some (.lst xs) => D.lst xs
      | _ => .ref n) = .lst xs
  split at h <;> simp_all
theorem dp_deref {K : PySem.W.Frag} {wd : Wd} {F H : Hp} {cs : Cs} (R : Rl K wd F cs H) {d : D} {v : V} (h : pur 64 (deref cs d) = true) (r : Rp K wd d v) : Dp K H v (toP (deref cs d)) := by
  cases d with
  | ref n =>
    cases hc : getL (.ref n) cs with
    | none =>
      rw [deref_none hc] at h
      cases h
    | some xs =>
      obtain ⟨a, vs, e1, h1, r1⟩ := R.getL (d := .ref n) r hc
      rw [deref_some hc] at h ⊢
      subst e1
      exact .lst (SqL.of h1) (dps_of R.b 63 xs vs (pur_purs h) r1)
  | _ => exact dp_of R.b 64 _ v h r
theorem ref_eq : Ref2 X.K (rEqD X.K) sEq := by
  intro wd F cs H x y v w P PX Q R rx ry hs q
  obtain ⟨h1, h2, h3⟩ := hs
  refine ⟨_, _, dp_deref R h1 rx, dp_deref R h2 ry, pur_shaped h1, pur_shaped h2, ?_⟩
  rw [← eqD_eqv 64 64 _ _ h1 h2]
  exact q wd (.bl _) cs _ H (Wd.le.refl _) R rfl h3
theorem ref_ne : Ref2 X.K (rNeD X.K) sNe := by
  intro wd F cs H x y v w P PX Q R rx ry hs q
  obtain ⟨h1, h2, h3⟩ := hs
  refine ⟨_, _, dp_deref R h1 rx, dp_deref R h2 ry, pur_shaped h1, pur_shaped h2, ?_⟩
  rw [← eqD_eqv 64 64 _ _ h1 h2]
  exact q wd (.bl _) cs _ H (Wd.le.refl _) R rfl h3
theorem j_eq (hu : X.A.units + 64 < cLine) (ha : JE X W a ca) (hb : JE X W b cb) : JE X W (.Compare a [.Eq] [b] pos) (.app sEq (.cons ca (.cons cb .nil))) := j_cmp (op_eqD hu) ref_eq ha hb (nomark _)
theorem j_ne (hu : X.A.units + 64 < cLine) (ha : JE X W a ca) (hb : JE X W b cb) : JE X W (.Compare a [.NotEq] [b] pos) (.app sNe (.cons ca (.cons cb .nil))) := j_cmp (op_neD hu) ref_ne ha hb (nomark _)
theorem jt_eq (hu : X.A.units + 64 < cLine) (ha : JE X W a ca) (hb : JE X W b cb) : JT X W (.Compare a [.Eq] [b] pos) (.app sEq (.cons ca (.cons cb .nil))) := jt_cmp (op_eqD hu) ref_eq ha hb (nomark _)
theorem jt_ne (hu : X.A.units + 64 < cLine) (ha : JE X W a ca) (hb : JE X W b cb) : JT X W (.Compare a [.NotEq] [b] pos) (.app sNe (.cons ca (.cons cb .nil))) := jt_cmp (op_neD hu) ref_ne ha hb (nomark _)
end
end G

namespace G
open PySem PySem.Spec L2
open Evl (Ex)
section
variable {X : Cx} {W : WX} {pos : Pos} {a b c e : Expr} {ca cb cc ce : E} {K : PySem.W.Frag}

/-! ### None; in -/
theorem isN_V {wd : Wd} {d : D} {v : V} (r : Rp K wd d v) : isN d = decide (v = .non) := by
  cases d with
  | non => cases (show v = _ from r); rfl
  | bl x => cases (show v = _ from r); rfl
  | int x => cases (show v = _ from r); rfl
  | str x => cases (show v = _ from r); rfl
  | tup ds => obtain ⟨a, _, e, _⟩ := r; subst e; rfl
  | lst ds => obtain ⟨a, _, e, _⟩ := r; subst e; rfl
  | dic _ _ => obtain ⟨a, _, e, _⟩ := r; subst e; rfl
  | ref n => obtain ⟨a, _, e⟩ := r; subst e; rfl
  | scr => obtain ⟨a, _, e, _⟩ := r; subst e; rfl
  | clo _ _ _ => obtain ⟨a, _, _, e, _⟩ := r; subst e; rfl
theorem ref_isN : Ref2 X.K (fun x y H Q => y = .non ∧ Q (.bl (decide (x = .non))) H) sIsN := by
  intro wd F cs H x y v w P PX Q R rx ry hs q
  cases y with
  | non =>
    have hs : P (.bl (isN x)) cs := hs
    rw [isN_V rx] at hs
    exact ⟨ry, q wd (.bl _) cs _ H (Wd.le.refl _) R rfl hs⟩
  | _ => exact hs.elim
theorem ref_notN : Ref2 X.K (fun x y H Q => y = .non ∧ Q (.bl (!decide (x = .non))) H) sNotN := by
  intro wd F cs H x y v w P PX Q R rx ry hs q
  cases y with
  | non =>
    have hs : P (.bl (!isN x)) cs := hs
    rw [isN_V rx] at hs
    exact ⟨ry, q wd (.bl _) cs _ H (Wd.le.refl _) R rfl hs⟩
  | _ => exact hs.elim
theorem j_isN (ha : JE X W a ca) (hb : JE X W b cb) : JE X W (.Compare a [.Is] [b] pos) (.app sIsN (.cons ca (.cons cb .nil))) := j_cmp op_isN ref_isN ha hb (nomark _)
theorem j_notN (ha : JE X W a ca) (hb : JE X W b cb) : JE X W (.Compare a [.IsNot] [b] pos) (.app sNotN (.cons ca (.cons cb .nil))) := j_cmp op_notN ref_notN ha hb (nomark _)
theorem jt_isN (ha : JE X W a ca) (hb : JE X W b cb) : JT X W (.Compare a [.Is] [b] pos) (.app sIsN (.cons ca (.cons cb .nil))) := jt_cmp op_isN ref_isN ha hb (nomark _)
theorem jt_notN (ha : JE X W a ca) (hb : JE X W b cb) : JT X W (.Compare a [.IsNot] [b] pos) (.app sNotN (.cons ca (.cons cb .nil))) := jt_cmp op_notN ref_notN ha hb (nomark _)
theorem flat_V {wd : Wd} {d : D} {v : V} (r : Rp K wd d v) (h : flat d = true) : flatV v = true := by
  cases d with
  | non => cases (show v = _ from r); rfl
  | bl x => cases (show v = _ from r); rfl
  | int x => cases (show v = _ from r); rfl
  | str x => cases (show v = _ from r); rfl
  | _ => cases h
theorem flats_V {wd : Wd} : ∀ {ds : List D} {vs : List V}, RpL K wd ds vs → ds.all flat = true → vs.all flatV = true
  | [], vs, r, _ => by cases (show vs = _ from r); rfl
  | d :: ds, vs, r, h => by
    obtain ⟨v, r', e, r1, r2⟩ := r
    subst e
    rw [List.all_cons, Bool.and_eq_true] at h ⊢
    exact ⟨flat_V r1 h.1, flats_V r2 h.2⟩
theorem eqD_V {wd : Wd} {d d' : D} {v v' : V} (r : Rp K wd d v) (r' : Rp K wd d' v') (h : flat d = true) (h' : flat d' = true) : eqD d d' = eqV v v' := by
  cases d with
  | non => cases (show v = _ from r); cases d' <;> first | (cases (show v' = _ from r'); rfl) | cases h'
  | bl x => cases (show v = _ from r); cases d' <;> first | (cases (show v' = _ from r'); rfl) | cases h'
  | int x => cases (show v = _ from r); cases d' <;> first | (cases (show v' = _ from r'); rfl) | cases h'
  | str x => cases (show v = _ from r); cases d' <;> first | (cases (show v' = _ from r'); rfl) | cases h'
  | _ => cases h
theorem inD_V {wd : Wd} {d : D} {v : V} (r : Rp K wd d v) (h : flat d = true) : ∀ {ds : List D} {vs : List V}, RpL K wd ds vs → ds.all flat = true → inD d ds = inV v vs
  | [], vs, q, _ => by cases (show vs = _ from q); rfl
  | x :: ds, vs, q, z => by
    obtain ⟨v', r', e, r1, r2⟩ := q
    subst e
    rw [List.all_cons, Bool.and_eq_true] at z
    have := inD_V r h r2 z.2
    unfold inD inV at this ⊢
    rw [List.any_cons, List.any_cons, this, eqD_V r1 r z.1 h]
theorem ref_in : Ref2 X.K (rIn X.K false) sIn := by
  intro wd F cs H x y v w P PX Q R rx ry hs q
  have hs : (match getQ y cs with
    | some xs => flat x = true ∧ xs.all flat = true ∧ P (.bl (inD x xs)) cs
    | none => False) := hs
  cases ey : getQ y cs with
  | none => rw [ey] at hs; exact hs.elim
  | some xs =>
    rw [ey] at hs
    obtain ⟨h1, h2, h3⟩ := hs
    obtain ⟨a, vs, e, s, r⟩ := R.getQ ry ey
    refine ⟨a, vs, e, s.imp SqL.of id, flat_V rx h1, flats_V r h2, ?_⟩
    rw [inD_V rx h1 r h2] at h3
    exact q wd (.bl _) cs _ H (Wd.le.refl _) R rfl h3
theorem ref_notIn : Ref2 X.K (rIn X.K true) sNotIn := by
  intro wd F cs H x y v w P PX Q R rx ry hs q
  have hs : (match getQ y cs with
    | some xs => flat x = true ∧ xs.all flat = true ∧ P (.bl (!inD x xs)) cs
    | none => False) := hs
  cases ey : getQ y cs with
  | none => rw [ey] at hs; exact hs.elim
  | some xs =>
    rw [ey] at hs
    obtain ⟨h1, h2, h3⟩ := hs
    obtain ⟨a, vs, e, s, r⟩ := R.getQ ry ey
    refine ⟨a, vs, e, s.imp SqL.of id, flat_V rx h1, flats_V r h2, ?_⟩
    rw [inD_V rx h1 r h2] at h3
    exact q wd (.bl _) cs _ H (Wd.le.refl _) R rfl h3
theorem j_in (ha : JE X W a ca) (hb : JE X W b cb) (hm : behindInMarks .In b = false := by rfl) : JE X W (.Compare a [.In] [b] pos) (.app sIn (.cons ca (.cons cb .nil))) := j_cmp op_in_seq ref_in ha hb hm
theorem j_notIn (ha : JE X W a ca) (hb : JE X W b cb) (hm : behindInMarks .NotIn b = false := by rfl) : JE X W (.Compare a [.NotIn] [b] pos) (.app sNotIn (.cons ca (.cons cb .nil))) := j_cmp op_notIn_seq ref_notIn ha hb hm
theorem jt_in (ha : JE X W a ca) (hb : JE X W b cb) (hm : behindInMarks .In b = false := by rfl) : JT X W (.Compare a [.In] [b] pos) (.app sIn (.cons ca (.cons cb .nil))) := jt_cmp op_in_seq ref_in ha hb hm
theorem jt_notIn (ha : JE X W a ca) (hb : JE X W b cb) (hm : behindInMarks .NotIn b = false := by rfl) : JT X W (.Compare a [.NotIn] [b] pos) (.app sNotIn (.cons ca (.cons cb .nil))) := jt_cmp op_notIn_seq ref_notIn ha hb hm

/-! ### items -/
theorem ix_V {wd : Wd} {ds : List D} {vs : List V} {i : Int} {d : D} (r : RpL K wd ds vs) (h : ix ds i = some d) : ∃ v, atI vs i = some v ∧ Rp K wd d v := by
  unfold ix at h
  cases e : ixn ds.length i with
  | none =>
    rw [e] at h
    cases h
  | some j =>
    rw [e] at h
    have h : ds[j]? = some d := h
    obtain ⟨v, h1, h2⟩ := r.get h
    refine ⟨v, ?_, h2⟩
    have e2 : ixN vs.length i = some j := by rw [r.length]; exact e
    unfold atI
    rw [e2]
    exact h1
def rIxA (K : PySem.W.Frag) : R2 := fun x y H Q => rIxL K x y H Q ∨ rIxT K x y H Q
theorem ref_ix : Ref2 X.K (rIxA X.K) sIx := by
  intro wd F cs H x y v w P PX Q R rx ry hs q
  cases y with
  | int i =>
    have hs : (match getQ x cs with
      | some xs => match ix xs i with
        | some d => P d cs
        | none => False
      | none => False) := by cases x <;> exact hs
    cases ex : getQ x cs with
    | none => rw [ex] at hs; exact hs.elim
    | some xs =>
      rw [ex] at hs
      have hs : (match ix xs i with
        | some d => P d cs
        | none => False) := hs
      cases ed : ix xs i with
      | none => rw [ed] at hs; exact hs.elim
      | some d =>
        rw [ed] at hs
        obtain ⟨a, vs, e, s, r⟩ := R.getQ rx ex
        obtain ⟨z, hz, rz⟩ := ix_V r ed
        have fin := q wd d cs z H (Wd.le.refl _) R rz hs
        rcases s with s | s
        · exact .inl ⟨a, vs, i, z, e, ry, SqL.of s, hz, fin⟩
        · exact .inr ⟨a, vs, i, z, e, ry, s, hz, fin⟩
  | _ => exact absurd hs (by cases x <;> exact fun z => z)
theorem j_ix (ha : JE X W a ca) (hb : JE X W b cb) (hs : PlainIx b := by exact fun _ _ => rfl) : JE X W (.Subscript a b pos) (.app sIx (.cons ca (.cons cb .nil))) := by
  obtain ⟨ta, p1, r1⟩ := ha
  obtain ⟨tb, p2, r2⟩ := hb
  exact ⟨_, pe_ix (ix_list.or ix_tup) p1 p2 hs, ref_bin ref_ix r1 r2⟩

/-! ### displays -/
variable {es : List Expr} {ces : Es}
theorem j_list {k : Nat} (h : JA X W es ces) : JE X W (.List es pos) (.app sList ces) := by
  obtain ⟨ta, p1, r1⟩ := h
  refine ⟨_, pe_lst p1, fun wd F τ cs σ H P PX Q R rs h q x => ?_⟩
  refine r1 wd F τ cs σ H _ PX _ R rs h (fun wd1 ds c1 vs H1 l1 R1 rv h1 => ⟨by rw [rv.length, sizeL]; exact h1.1, fun p hp => ?_⟩) x
  obtain ⟨wd2, l2, R2, r2⟩ := R1.lst hp rv
  exact q wd2 _ c1 _ _ (l1.trans l2) R2 r2 h1.2
theorem j_listM (h : JA X W es ces) : JE X W (.List es pos) (.app sListM ces) := by
  obtain ⟨ta, p1, r1⟩ := h
  refine ⟨_, pe_lst p1, fun wd F τ cs σ H P PX Q R rs h q x => ?_⟩
  refine r1 wd F τ cs σ H _ PX _ R rs h (fun wd1 ds c1 vs H1 l1 R1 rv h1 => ⟨by rw [rv.length, sizeL]; exact h1.1, fun p hp => ?_⟩) x
  obtain ⟨n, wd2, hn, l2, R2, r2⟩ := R1.cellL hp rv
  exact q wd2 _ _ _ _ (l1.trans l2) R2 r2 (h1.2 n hn)
theorem j_tup {k : Nat} (h : JA X W es ces) : JE X W (.Tuple es k pos) (.app sTup ces) := by
  obtain ⟨ta, p1, r1⟩ := h
  refine ⟨_, pe_tup p1, fun wd F τ cs σ H P PX Q R rs h q x => ?_⟩
  refine r1 wd F τ cs σ H _ PX _ R rs h (fun wd1 ds c1 vs H1 l1 R1 rv h1 => ⟨by rw [rv.length, sizeL]; exact h1.1, fun p hp => ?_⟩) x
  obtain ⟨wd2, l2, R2, r2⟩ := R1.tup hp rv
  exact q wd2 _ c1 _ _ (l1.trans l2) R2 r2 h1.2

/-! ### built-ins -/
theorem j_bltn {r : List V → Hp → VK → Prop} {sp : Spec} {id : String} {x : Str} {p : Pos} (hc : CallR X (.builtin id) r) (hr : RefN X.K r sp) (hg : Gl X x) (hm : X.mg x = none) (hv : bootBuiltins x = some (.builtin id)) (ha : JA X W (e :: es) ces)
    (hn : x ≠ "__name__" := by decide) (hdb : (x == ("__debug__" : Str)) = false := by decide) (he : starEach (e :: es) X.env = (false, eval e X.env) :: starEach es X.env := by rfl) (hpl : (backTo pos (starEach es X.env)).any (·.1) = false := by rfl) :
    JE X W (.Call (.Name x p) (e :: es) [] pos) (.app sp ces) := by
  obtain ⟨ta, p1, r1⟩ := ha
  refine ⟨_, pe_callB hc hg hm hv p1 hn hdb he hpl, fun wd F τ cs σ H P PX Q R rs h q x => ?_⟩
  refine r1 wd F τ cs σ H _ PX _ R rs h (fun wd1 ds c1 vs H1 l1 R1 rv h1 => ?_) x
  exact hr wd1 F c1 H1 ds vs P PX Q R1 rv h1 (q.mono l1)
theorem j_bltnTy {r : List V → Hp → VK → Prop} {sp : Spec} {T : String} {x : Str} {p : Pos} (hc : CallR X (.type T) r) (hr : RefN X.K r sp) (hg : Gl X x) (hm : X.mg x = none) (hv : bootBuiltins x = some (.type T)) (ha : JA X W (e :: es) ces)
    (hn : x ≠ "__name__" := by decide) (hdb : (x == ("__debug__" : Str)) = false := by decide) (he : starEach (e :: es) X.env = (false, eval e X.env) :: starEach es X.env := by rfl) (hpl : (backTo pos (starEach es X.env)).any (·.1) = false := by rfl) :
    JE X W (.Call (.Name x p) (e :: es) [] pos) (.app sp ces) := by
  obtain ⟨ta, p1, r1⟩ := ha
  refine ⟨_, pe_callTy hc hg hm hv p1 hn hdb he hpl, fun wd F τ cs σ H P PX Q R rs h q x => ?_⟩
  refine r1 wd F τ cs σ H _ PX _ R rs h (fun wd1 ds c1 vs H1 l1 R1 rv h1 => ?_) x
  exact hr wd1 F c1 H1 ds vs P PX Q R1 rv h1 (q.mono l1)
theorem refn_len : RefN X.K (fun xs H Q => ∃ x n, xs = [x] ∧ LenV X.K x H n ∧ Q (.int n) H) sLen := by
  intro wd F cs H ds vs P PX Q R r hs q
  match ds, hs with
  | [d], hs =>
    obtain ⟨v, e, rv⟩ := r.one
    have go : (match getQ d cs with
        | some xs => P (.int xs.length) cs
        | none => False) → ∃ x n, vs = [x] ∧ LenV X.K x H n ∧ Q (.int n) H := fun h => by
      cases ex : getQ d cs with
      | none => rw [ex] at h; exact h.elim
      | some xs =>
        rw [ex] at h
        obtain ⟨a, ws, e2, s, r2⟩ := R.getQ rv ex
        subst e2
        refine ⟨.ref a, xs.length, e, ?_, q wd (.int _) cs _ H (Wd.le.refl _) R rfl h⟩
        rcases s with s | s
        · exact .inl ⟨ws, SqL.of s, r2.length.symm⟩
        · exact .inr ⟨ws, s, r2.length.symm⟩
    cases d with
    | str s =>
      cases (show v = _ from rv)
      exact ⟨.str s, s.length, e, ⟨by rw [sizeL]; exact hs.1, rfl⟩, q wd (.int _) cs _ H (Wd.le.refl _) R rfl hs.2⟩
    | tup xs => exact go hs
    | lst xs => exact go hs
    | ref n => exact go hs
    | _ => exact hs.elim
  | [], hs => exact hs.elim
  | _ :: _ :: _, hs => exact absurd hs (by intro z; first | exact z | (revert z; unfold sLen; simp))
theorem j_len {p : Pos} (hg : Gl X "len") (hm : X.mg "len" = none) (ha : JE X W a ca) (h1 : starEach [a] X.env = (false, eval a X.env) :: starEach [] X.env := by rfl) : JE X W (.Call (.Name "len" p) [a] [] pos) (.app sLen (.cons ca .nil)) :=
  j_bltn call_len refn_len hg hm PySem.boot_len (ja_cons ha ja_nil h1) (he := h1) (hpl := rfl)
end
end G

namespace G
open PySem PySem.Spec L2
open Evl (Ex)
section
variable {X : Cx} {W : WX} {pos : Pos} {a b c e : Expr} {ca cb cc ce : E} {K : PySem.W.Frag} {p : Pos}

theorem boot_listG : bootBuiltins "list" = some (.type "list") := by decide +kernel
theorem boot_tupleG : bootBuiltins "tuple" = some (.type "tuple") := by decide +kernel
theorem boot_intG : bootBuiltins "int" = some (.type "int") := by decide +kernel
theorem boot_boolG : bootBuiltins "bool" = some (.type "bool") := by decide +kernel
theorem boot_strG : bootBuiltins "str" = some (.type "str") := by decide +kernel
/-! ### list(..), tuple(..) -/
theorem refn_one {r : List V → Hp → VK → Prop} {f : D → Cs → KD → Prop} (hf : ∀ wd F cs H d v (P : KD) (Q : VK), Rl K wd F cs H → Rp K wd d v → f d cs P → QOk K wd F P Q → r [v] H Q) : RefN K r (fun ds cs Q _ => match ds with
    | [d] => f d cs Q
    | _ => False) := by
  intro wd F cs H ds vs P PX Q R rv hs q
  match ds, rv, hs with
  | [d], rv, hs =>
    obtain ⟨v, e, rv1⟩ := rv.one
    subst e
    exact hf wd F cs H d v P Q R rv1 hs q
  | [], _, hs => exact hs.elim
  | _ :: _ :: _, _, hs => exact hs.elim
theorem refn_listOf : RefN X.K (fun xs H Q => ∃ p ys, xs = [.ref p] ∧ (SqL X.K H p ys ∨ SqT X.K H p ys) ∧ ∀ l, H l = none → Q (.ref l) (upd H l (.lst ys))) sListOf := by
  refine refn_one (f := fun d cs Q => match getQ d cs with
    | some xs => Q (.lst xs) cs
    | none => False) fun wd F cs H d v P Q R rv h q => ?_
  cases ex : getQ d cs with
  | none => simp only [ex] at h
  | some xs =>
    simp only [ex] at h
    obtain ⟨a, ws, e2, s, r2⟩ := R.getQ rv ex
    subst e2
    refine ⟨a, ws, rfl, s.imp SqL.of id, fun l hl => ?_⟩
    obtain ⟨wd', le, R', rp⟩ := R.lst hl r2
    exact q wd' _ cs _ _ le R' rp h
theorem refn_listOfM : RefN X.K (fun xs H Q => ∃ p ys, xs = [.ref p] ∧ (SqL X.K H p ys ∨ SqT X.K H p ys) ∧ ∀ l, H l = none → Q (.ref l) (upd H l (.lst ys))) sListOfM := by
  refine refn_one (f := fun d cs Q => match getQ d cs with
    | some xs => ∀ n, cs n = none → Q (.ref n) (put cs n (.lst xs))
    | none => False) fun wd F cs H d v P Q R rv h q => ?_
  cases ex : getQ d cs with
  | none => simp only [ex] at h
  | some xs =>
    simp only [ex] at h
    obtain ⟨a, ws, e2, s, r2⟩ := R.getQ rv ex
    subst e2
    refine ⟨a, ws, rfl, s.imp SqL.of id, fun l hl => ?_⟩
    obtain ⟨n, wd', hn, le, R', rp⟩ := R.cellL hl r2
    exact q wd' _ _ _ _ le R' rp (h n hn)
theorem refn_tupOf : RefN X.K (fun xs H Q => ∃ p ys, xs = [.ref p] ∧ ((SqL X.K H p ys ∧ ∀ l, H l = none → Q (.ref l) (upd H l (.tup ys))) ∨ (SqT X.K H p ys ∧ Q (.ref p) H))) sTupOf := by
  refine refn_one (f := fun d cs Q => match getQ d cs with
    | some xs => Q (.tup xs) cs
    | none => False) fun wd F cs H d v P Q R rv h q => ?_
  have byL : ∀ {a ws xs}, v = .ref a → H a = some (.lst ws) → RpL X.K wd xs ws → P (.tup xs) cs → ∃ p ys, [v] = [.ref p] ∧ ((SqL X.K H p ys ∧ ∀ l, H l = none → Q (.ref l) (upd H l (.tup ys))) ∨ (SqT X.K H p ys ∧ Q (.ref p) H)) := fun {a ws xs} e2 s r2 h => by
    subst e2
    refine ⟨a, ws, rfl, .inl ⟨SqL.of s, fun l hl => ?_⟩⟩
    obtain ⟨wd', le, R', rp⟩ := R.tup hl r2
    exact q wd' _ cs _ _ le R' rp h
  cases d with
  | tup xs =>
    have h : P (.tup xs) cs := h
    obtain ⟨a, ws, e2, s, r2⟩ := id rv
    have := q wd _ cs _ H (Wd.le.refl _) R rv h
    subst e2
    exact ⟨a, ws, rfl, .inr ⟨(SqT.of (R.b _ _ s)), this⟩⟩
  | lst xs =>
    obtain ⟨a, ws, e2, s, r2⟩ := R.getL (d := .lst xs) rv rfl
    exact byL e2 s r2 h
  | ref n =>
    cases ex : getL (.ref n) cs with
    | none =>
      have ex : getQ (.ref n) cs = none := ex
      simp only [ex] at h
    | some xs =>
      have ex2 : getQ (.ref n) cs = some xs := ex
      simp only [ex2] at h
      obtain ⟨a, ws, e2, s, r2⟩ := R.getL (d := .ref n) rv ex
      exact byL e2 s r2 h
  | _ => exact h.elim
theorem j_listOf (hg : Gl X "list") (hm : X.mg "list" = none) (ha : JE X W a ca) (h1 : starEach [a] X.env = (false, eval a X.env) :: starEach [] X.env := by rfl) : JE X W (.Call (.Name "list" p) [a] [] pos) (.app sListOf (.cons ca .nil)) :=
  j_bltnTy call_list_of refn_listOf hg hm boot_listG (ja_cons ha ja_nil h1) (he := h1) (hpl := rfl)
theorem j_listOfM (hg : Gl X "list") (hm : X.mg "list" = none) (ha : JE X W a ca) (h1 : starEach [a] X.env = (false, eval a X.env) :: starEach [] X.env := by rfl) : JE X W (.Call (.Name "list" p) [a] [] pos) (.app sListOfM (.cons ca .nil)) :=
  j_bltnTy call_list_of refn_listOfM hg hm boot_listG (ja_cons ha ja_nil h1) (he := h1) (hpl := rfl)
theorem j_tupOf (hg : Gl X "tuple") (hm : X.mg "tuple" = none) (ha : JE X W a ca) (h1 : starEach [a] X.env = (false, eval a X.env) :: starEach [] X.env := by rfl) : JE X W (.Call (.Name "tuple" p) [a] [] pos) (.app sTupOf (.cons ca .nil)) :=
  j_bltnTy call_tuple_of refn_tupOf hg hm boot_tupleG (ja_cons ha ja_nil h1) (he := h1) (hpl := rfl)

/-! ### list(range(..)) -/
theorem rgD_V {wd : Wd} (a b : Int) : RpL K wd (rgD a b) (rgV a b) := by
  unfold rgD rgV
  generalize (b - a).toNat = n
  have : ∀ l : List Nat, RpL K wd (l.map fun i => D.int (a + (i : Nat))) (l.map fun i => V.int (a + (i : Nat))) := by
    intro l
    induction l with
    | nil => rfl
    | cons x r ih => exact ⟨_, _, rfl, rfl, ih⟩
  exact this _
theorem j_listRg1 {q p' : Pos} (hc : X.calm = true) (hg : Gl X "list") (hm : X.mg "list" = none) (hg2 : Gl X "range") (hm2 : X.mg "range" = none) (ha : JE X W a ca) (h1 : starEach [a] X.env = (false, eval a X.env) :: starEach [] X.env := by rfl)
    (h2 : starEach [Expr.Call (.Name "range" q) [a] [] p'] X.env = (false, eval (.Call (.Name "range" q) [a] [] p') X.env) :: starEach [] X.env := by rfl) :
    JE X W (.Call (.Name "list" p) [.Call (.Name "range" q) [a] [] p'] [] pos) (.app sListRg (.cons (.c (.int 0)) (.cons ca .nil))) := by
  obtain ⟨ta, p1, r1⟩ := ha
  refine ⟨_, pe_listRg hc hg hm (prg_1 hg2 hm2 p1 h1) h2, fun wd F τ cs σ H P PX Q R rs h q x => ?_⟩
  refine r1 wd F τ cs σ H _ PX _ R rs h (fun wd1 d c1 v H1 l1 R1 rv h1 => ?_) x
  cases d with
  | int n =>
    obtain ⟨b1, b2, b3, b4, b5, h2⟩ := h1
    refine ⟨n, rv, ⟨b1, b2, b3, b4, b5⟩, fun p hp => ?_⟩
    obtain ⟨wd2, l2, R2, r2⟩ := R1.lst hp (rgD_V 0 n)
    exact q wd2 _ c1 _ _ (l1.trans l2) R2 r2 h2
  | _ => exact h1.elim
theorem j_tupRg1 {q p' : Pos} (hc : X.calm = true) (hg : Gl X "tuple") (hm : X.mg "tuple" = none) (hg2 : Gl X "range") (hm2 : X.mg "range" = none) (ha : JE X W a ca) (h1 : starEach [a] X.env = (false, eval a X.env) :: starEach [] X.env := by rfl)
    (h2 : starEach [Expr.Call (.Name "range" q) [a] [] p'] X.env = (false, eval (.Call (.Name "range" q) [a] [] p') X.env) :: starEach [] X.env := by rfl) :
    JE X W (.Call (.Name "tuple" p) [.Call (.Name "range" q) [a] [] p'] [] pos) (.app sTupRg (.cons (.c (.int 0)) (.cons ca .nil))) := by
  obtain ⟨ta, p1, r1⟩ := ha
  refine ⟨_, pe_tupRg hc hg hm (prg_1 hg2 hm2 p1 h1) h2, fun wd F τ cs σ H P PX Q R rs h q x => ?_⟩
  refine r1 wd F τ cs σ H _ PX _ R rs h (fun wd1 d c1 v H1 l1 R1 rv h1 => ?_) x
  cases d with
  | int n =>
    obtain ⟨b1, b2, b3, b4, b5, h2⟩ := h1
    refine ⟨n, rv, ⟨b1, b2, b3, b4, b5⟩, fun p hp => ?_⟩
    obtain ⟨wd2, l2, R2, r2⟩ := R1.tup hp (rgD_V 0 n)
    exact q wd2 _ c1 _ _ (l1.trans l2) R2 r2 h2
  | _ => exact h1.elim

/-! ### all, sum, min, max -/
theorem asBools_V {wd : Wd} : ∀ {ds : List D} {vs : List V} {bs : List Bool}, RpL K wd ds vs → asBools ds = some bs → vs = bs.map V.bl
  | [], vs, bs, r, h => by
    cases (show vs = _ from r)
    cases h
    rfl
  | d :: ds, vs, bs, r, h => by
    obtain ⟨v, r', e, r1, r2⟩ := r
    subst e
    cases d with
    | bl x =>
      have h : (asBools ds).map (x :: ·) = some bs := h
      cases q : asBools ds with
      | none => rw [q] at h; cases h
      | some cs =>
        rw [q] at h
        cases h
        cases (show v = _ from r1)
        rw [asBools_V r2 q]
        rfl
    | _ => cases h
theorem asInts_V {wd : Wd} : ∀ {ds : List D} {vs : List V} {bs : List Int}, RpL K wd ds vs → asInts ds = some bs → vs = bs.map V.int
  | [], vs, bs, r, h => by
    cases (show vs = _ from r)
    cases h
    rfl
  | d :: ds, vs, bs, r, h => by
    obtain ⟨v, r', e, r1, r2⟩ := r
    subst e
    cases d with
    | int x =>
      have h : (asInts ds).map (x :: ·) = some bs := h
      cases q : asInts ds with
      | none => rw [q] at h; cases h
      | some cs =>
        rw [q] at h
        cases h
        cases (show v = _ from r1)
        rw [asInts_V r2 q]
        rfl
    | _ => cases h
theorem refn_all : RefN X.K (rAll X.K) sAll := by
  refine refn_one (f := fun d cs Q => match getL d cs with
    | some xs => match asBools xs with
      | some bs => Q (.bl (bs.all id)) cs
      | none => False
    | none => False) fun wd F cs H d v P Q R rv h q => ?_
  cases ex : getL d cs with
  | none => simp only [ex] at h
  | some xs =>
    simp only [ex] at h
    cases eb : asBools xs with
    | none => simp only [eb] at h
    | some bs =>
      simp only [eb] at h
      obtain ⟨a, ws, e2, s, r2⟩ := R.getL rv ex
      subst e2
      have := asBools_V r2 eb
      subst this
      exact ⟨a, bs, rfl, SqL.of s, q wd (.bl _) cs _ H (Wd.le.refl _) R rfl h⟩
theorem refn_sum : RefN X.K (rSum X.K) sSum := by
  refine refn_one (f := fun d cs Q => match getL d cs with
    | some xs => match asInts xs with
      | some bs => Q (.int bs.sum) cs
      | none => False
    | none => False) fun wd F cs H d v P Q R rv h q => ?_
  cases ex : getL d cs with
  | none => simp only [ex] at h
  | some xs =>
    simp only [ex] at h
    cases eb : asInts xs with
    | none => simp only [eb] at h
    | some bs =>
      simp only [eb] at h
      obtain ⟨a, ws, e2, s, r2⟩ := R.getL rv ex
      subst e2
      have := asInts_V r2 eb
      subst this
      exact ⟨a, bs, rfl, SqL.of s, q wd (.int _) cs _ H (Wd.le.refl _) R rfl h⟩
theorem boot_allG : bootBuiltins "all" = some (.builtin "all") := by decide +kernel
theorem boot_sumG : bootBuiltins "sum" = some (.builtin "sum") := by decide +kernel
theorem boot_minG : bootBuiltins "min" = some (.builtin "min") := by decide +kernel
theorem boot_maxG : bootBuiltins "max" = some (.builtin "max") := by decide +kernel
theorem boot_isiG : bootBuiltins "isinstance" = some (.builtin "isinstance") := by decide +kernel
theorem j_all (hc : X.calm = true) (hg : Gl X "all") (hm : X.mg "all" = none) (ha : JE X W a ca) (h1 : starEach [a] X.env = (false, eval a X.env) :: starEach [] X.env := by rfl) : JE X W (.Call (.Name "all" p) [a] [] pos) (.app sAll (.cons ca .nil)) :=
  j_bltn (cr_all hc) refn_all hg hm boot_allG (ja_cons ha ja_nil h1) (he := h1) (hpl := rfl)
theorem j_sum (hc : X.calm = true) (hg : Gl X "sum") (hm : X.mg "sum" = none) (ha : JE X W a ca) (h1 : starEach [a] X.env = (false, eval a X.env) :: starEach [] X.env := by rfl) : JE X W (.Call (.Name "sum" p) [a] [] pos) (.app sSum (.cons ca .nil)) :=
  j_bltn (cr_sum hc) refn_sum hg hm boot_sumG (ja_cons ha ja_nil h1) (he := h1) (hpl := rfl)
theorem refn_int2 {f : Int → Int → D} {g : Int → Int → V} (hfg : ∀ wd i j, Rp K wd (f i j) (g i j)) : RefN K (fun xs H Q => ∃ i j, xs = [.int i, .int j] ∧ Q (g i j) H) (sInt CTrue f) := by
  intro wd F cs H ds vs P PX Q R r hs q
  match ds, r, hs with
  | [x, y], r, hs =>
    obtain ⟨v, w, e, r1, r2⟩ := r.two
    obtain ⟨i, j, e1, e2, _, hp⟩ := sInt_inv hs
    subst e1 e2 e
    exact ⟨i, j, by rw [show v = _ from r1, show w = _ from r2], q wd _ cs _ H (Wd.le.refl _) R (hfg wd i j) hp⟩
  | [], _, hs => exact hs.elim
  | [x], _, hs => exact absurd hs (by unfold sInt; cases x <;> exact fun z => z)
  | x :: y :: _ :: _, _, hs => exact absurd hs (by unfold sInt; cases x <;> first | exact fun z => z | (cases y <;> exact fun z => z))
theorem j_max2 (hc : X.calm = true) (hg : Gl X "max") (hm : X.mg "max" = none) (ha : JE X W a ca) (hb : JE X W b cb) (h1 : starEach [a, b] X.env = (false, eval a X.env) :: starEach [b] X.env := by rfl) (h2 : starEach [b] X.env = (false, eval b X.env) :: starEach [] X.env := by rfl) (hpl : (backTo pos (starEach [b] X.env)).any (·.1) = false := by rfl) :
    JE X W (.Call (.Name "max" p) [a, b] [] pos) (.app sMax2 (.cons ca (.cons cb .nil))) :=
  j_bltn (call_max2 hc) (refn_int2 fun _ _ _ => rfl) hg hm boot_maxG (ja_cons ha (ja_cons hb ja_nil h2) h1) (he := h1) (hpl := hpl)
theorem j_min2 (hc : X.calm = true) (hg : Gl X "min") (hm : X.mg "min" = none) (ha : JE X W a ca) (hb : JE X W b cb) (h1 : starEach [a, b] X.env = (false, eval a X.env) :: starEach [b] X.env := by rfl) (h2 : starEach [b] X.env = (false, eval b X.env) :: starEach [] X.env := by rfl) (hpl : (backTo pos (starEach [b] X.env)).any (·.1) = false := by rfl) :
    JE X W (.Call (.Name "min" p) [a, b] [] pos) (.app sMin2 (.cons ca (.cons cb .nil))) :=
  j_bltn (call_min2 hc) (refn_int2 fun _ _ _ => rfl) hg hm boot_minG (ja_cons ha (ja_cons hb ja_nil h2) h1) (he := h1) (hpl := hpl)

/-! ### isinstance -/
def tyN : Ty → String
  | .int => "int"
  | .bool => "bool"
  | .str => "str"
  | .list => "list"
  | .tuple => "tuple"
def kdN : Ty → String
  | .int => "int"
  | .bool => "bool"
  | .str => "str"
  | .list => "list"
  | .tuple => "tuple"
theorem kit_none (t : Ty) : kitB "NoneType" (tyN t) = some false := by cases t <;> decide +kernel
theorem kit_bool (t : Ty) : kitB "bool" (tyN t) = isTy (fun _ => none) (.bl true) t := by cases t <;> decide +kernel
theorem kit_int (t : Ty) : kitB "int" (tyN t) = isTy (fun _ => none) (.int 0) t := by cases t <;> decide +kernel
theorem kit_str (t : Ty) : kitB "str" (tyN t) = isTy (fun _ => none) (.str (Str.ofString "")) t := by cases t <;> decide +kernel
theorem kit_tup (t : Ty) : kitB "tuple" (tyN t) = isTy (fun _ => none) (.tup []) t := by cases t <;> decide +kernel
theorem kit_lst (t : Ty) : kitB "list" (tyN t) = isTy (fun _ => none) (.lst []) t := by cases t <;> decide +kernel
/-- a value's type, with the answers -/
theorem ty_V {wd : Wd} {F H : Hp} {cs : Cs} (R : Rl K wd F cs H) {d : D} {v : V} (r : Rp K wd d v) (hk : ∃ t b, isTy cs d t = some b) : ∃ n : String, TyX K H v (.type n) ∧ ∀ t b, isTy cs d t = some b → kitB n (tyN t) = some b := by
  cases d with
  | non => cases (show v = _ from r); exact ⟨_, .base .non, fun t b h => by rw [kit_none]; exact h⟩
  | bl x => cases (show v = _ from r); exact ⟨_, .base (.bl x), fun t b h => by rw [kit_bool, ← h]; cases t <;> rfl⟩
  | int x => cases (show v = _ from r); exact ⟨_, .base (.int x), fun t b h => by rw [kit_int, ← h]; cases t <;> rfl⟩
  | str x => cases (show v = _ from r); exact ⟨_, .base (.str x), fun t b h => by rw [kit_str, ← h]; cases t <;> rfl⟩
  | tup ds =>
    obtain ⟨a, xs, e, s, _⟩ := r
    subst e
    refine ⟨"tuple", ?_, fun t b h => by rw [kit_tup, ← h]; cases t <;> rfl⟩
    rcases (SqT.of (R.b _ _ s)) with (s | ⟨o, s⟩) | ⟨o, its, n, h1, h2, _⟩
    · exact .base (.tup s)
    · exact .fTuple s
    · exact .kTuple h1 h2
  | lst ds =>
    obtain ⟨a, xs, e, s, _⟩ := r
    subst e
    exact ⟨"list", .base (.lst (R.b a _ s)), fun t b h => by rw [kit_lst, ← h]; cases t <;> rfl⟩
  | dic _ _ => obtain ⟨t, b, h⟩ := hk; cases t <;> cases h
  | scr => obtain ⟨t, b, h⟩ := hk; cases t <;> cases h
  | clo _ _ _ => obtain ⟨t, b, h⟩ := hk; cases t <;> cases h
  | ref n =>
    obtain ⟨t, b, h⟩ := hk
    have hl : ∃ xs, cs n = some (.lst xs) := by
      cases q : cs n with
      | none => simp only [isTy, q] at h; cases h
      | some o =>
        cases o with
        | lst xs => exact ⟨xs, rfl⟩
        | _ => simp only [isTy, q] at h; cases h
    obtain ⟨xs, hl⟩ := hl
    obtain ⟨a, ws, e, s, _⟩ := R.getL (d := .ref n) (xs := xs) r (by simp only [getL, hl])
    subst e
    refine ⟨"list", .base (.lst s), fun t b h => ?_⟩
    rw [kit_lst, ← h]
    cases t <;> simp only [isTy, hl]
theorem j_isi {T : Str} {t : Ty} {q : Pos} (hg : Gl X "isinstance") (hm : X.mg "isinstance" = none) (hgT : Gl X T) (hmT : X.mg T = none) (hT : bootBuiltins T = some (.type (tyN t))) (ha : JE X W a ca) (hTn : T ≠ "__name__" := by decide) (hTd : (T == ("__debug__" : Str)) = false := by decide)
    (h1 : starEach [a, .Name T q] X.env = (false, eval a X.env) :: starEach [.Name T q] X.env := by rfl) (h2 : starEach [.Name T q] X.env = (false, eval (.Name T q) X.env) :: starEach [] X.env := by rfl) (hpl : (backTo pos (starEach [.Name T q] X.env)).any (·.1) = false := by rfl) :
    JE X W (.Call (.Name "isinstance" p) [a, .Name T q] [] pos) (.app (sIsi t) (.cons ca .nil)) := by
  obtain ⟨ta, p1, r1⟩ := ha
  refine ⟨_, pe_callB call_isi hg hm boot_isiG (pa_cons p1 (pa_cons (pe_bltn (v := .ty (tyN t)) hgT hmT hT rfl hTn hTd) pa_nil h2) h1) (he := h1) (hpl := hpl), fun wd F τ cs σ H P PX Q R rs h q x => ?_⟩
  refine r1 wd F τ cs σ H _ PX _ R rs h (fun wd1 d c1 v H1 l1 R1 rv h1 => ?_) x
  have h1 : (match isTy c1 d t with
    | some b => P (.bl b) c1
    | none => False) := h1
  cases eb : isTy c1 d t with
  | none => rw [eb] at h1; exact h1.elim
  | some b =>
    rw [eb] at h1
    obtain ⟨n, ty, hk⟩ := ty_V R1 rv ⟨t, b, eb⟩
    exact ⟨v, .ty (tyN t), .type n, .type (tyN t), b, rfl, .ty _, ty, kit_ty (hk t b eb), q wd1 (.bl b) c1 _ H1 l1 R1 rfl h1⟩
theorem j_isi2 {T T' : Str} {t t' : Ty} {q q' r' : Pos} {kk : Nat} (hg : Gl X "isinstance") (hm : X.mg "isinstance" = none) (hgT : Gl X T) (hmT : X.mg T = none) (hT : bootBuiltins T = some (.type (tyN t))) (hgT' : Gl X T') (hmT' : X.mg T' = none) (hT' : bootBuiltins T' = some (.type (tyN t'))) (ha : JE X W a ca)
    (hTn : T ≠ "__name__" := by decide) (hTd : (T == ("__debug__" : Str)) = false := by decide) (hTn' : T' ≠ "__name__" := by decide) (hTd' : (T' == ("__debug__" : Str)) = false := by decide)
    (h1 : starEach [a, .Tuple [.Name T q, .Name T' q'] kk r'] X.env = (false, eval a X.env) :: starEach [.Tuple [.Name T q, .Name T' q'] kk r'] X.env := by rfl) (h2 : starEach [.Tuple [.Name T q, .Name T' q'] kk r'] X.env = (false, eval (.Tuple [.Name T q, .Name T' q'] kk r') X.env) :: starEach [] X.env := by rfl) (hpl : (backTo pos (starEach [.Tuple [.Name T q, .Name T' q'] kk r'] X.env)).any (·.1) = false := by rfl)
    (h3 : starEach [.Name T q, .Name T' q'] X.env = (false, eval (.Name T q) X.env) :: starEach [.Name T' q'] X.env := by rfl) (h4 : starEach [.Name T' q'] X.env = (false, eval (.Name T' q') X.env) :: starEach [] X.env := by rfl) :
    JE X W (.Call (.Name "isinstance" p) [a, .Tuple [.Name T q, .Name T' q'] kk r'] [] pos) (.app (sIsi2 t t') (.cons ca .nil)) := by
  obtain ⟨ta, p1, r1⟩ := ha
  refine ⟨_, pe_callB call_isiT hg hm boot_isiG (pa_cons p1 (pa_cons (pe_tup (pa_cons (pe_bltn (v := .ty (tyN t)) hgT hmT hT rfl hTn hTd) (pa_cons (pe_bltn (v := .ty (tyN t')) hgT' hmT' hT' rfl hTn' hTd') pa_nil h4) h3)) pa_nil h2) h1) (he := h1) (hpl := hpl), fun wd F τ cs σ H P PX Q R rs h q x => ?_⟩
  refine r1 wd F τ cs σ H _ PX _ R rs h (fun wd1 d c1 v H1 l1 R1 rv h1 => ?_) x
  have h1 : (match isTy c1 d t, isTy c1 d t' with
    | some a, some b => P (.bl (a || b)) c1
    | _, _ => False) := h1
  cases eb : isTy c1 d t with
  | none => rw [eb] at h1; exact h1.elim
  | some b =>
    cases eb' : isTy c1 d t' with
    | none => rw [eb, eb'] at h1; exact h1.elim
    | some b' =>
      rw [eb, eb'] at h1
      refine ⟨by show 2 ≤ sizeLine; rw [sizeL]; decide, fun tp htp => ?_⟩
      obtain ⟨R2, l2⟩ := R1.new htp (.tup [.ty (tyN t), .ty (tyN t')])
      obtain ⟨n, ty, hk⟩ := ty_V R2 (rv.mono l2) ⟨t, b, eb⟩
      refine ⟨v, tp, [.ty (tyN t), .ty (tyN t')], .type n, [.type (tyN t), .type (tyN t')], b || b', rfl, upd_same, .cons (.ty _) (.cons (.ty _) .nil), ty, ?_, q _ (.bl (b || b')) c1 _ _ (l1.trans l2) R2 rfl h1⟩
      refine kitAny_cons (b := b) (kit_ty (hk t b eb)) (fun z => ?_) fun z => by rw [z]; rfl
      rw [z, Bool.false_or]
      exact kitAny_cons (b := b') (kit_ty (hk t' b' eb')) (fun z => by rw [z]; exact kitAny_nil) fun z => z
end
end G

/-! GStm: tests, statements, loops, comprehensions. -/
namespace G
open PySem PySem.Spec L2
open Evl (Ex)
def JW (X : Cx) (W : WX) (e : Expr) (c : E) : Prop := ∃ tt, PW X e tt ∧ RefT X W tt c
section
variable {X : Cx} {W : WX} {pos : Pos} {a b c e : Expr} {ca cb cc ce : E} {K : PySem.W.Frag} {p : Pos} {rest : List Expr}
/-! ### tests -/
theorem jt_val (h : JE X W e ce) (he : ∀ whole, isTrue e X.env whole = (do let v ← whole; standAt e.pos; holding [v] (truthy v)) := by intro _; rfl) : JT X W e ce := by
  obtain ⟨te, p1, r1⟩ := h
  refine ⟨_, pt_val p1 he, fun wd F τ cs σ H P PX Q R rs h q x => ?_⟩
  refine r1 wd F τ cs σ H _ PX _ R rs h (fun wd1 d c1 v H1 l1 R1 rv h1 => ?_) x
  obtain ⟨k, e, hp⟩ := q wd1 d c1 H1 l1 R1 h1
  subst e
  exact ⟨k, rv, hp⟩
theorem jt_w (h : JW X W e ce) : JT X W e ce := by
  obtain ⟨tt, p1, r1⟩ := h
  exact ⟨tt, p1.pt, r1⟩
theorem sNot_inv {d : D} {cs : Cs} {P : KD} {PX : KX} (h : sNot [d] cs P PX) : ∃ k, d = .bl k ∧ P (.bl (!k)) cs := by
  cases d with
  | bl k => exact ⟨k, rfl, h⟩
  | _ => exact h.elim
theorem jt_not (h : JT X W a ca) : JT X W (.UnaryOp .Not a pos) (.app sNot (.cons ca .nil)) := by
  obtain ⟨tt, p1, r1⟩ := h
  refine ⟨_, pt_not p1, fun wd F τ cs σ H P PX Q R rs h q x => ?_⟩
  refine r1 wd F τ cs σ H _ PX (fun c H1 => Q (!c) H1) R rs h (fun wd1 d c1 H1 l1 R1 h1 => ?_) x
  obtain ⟨k, e, hp⟩ := sNot_inv (PX := PX) h1
  obtain ⟨k', e', hp'⟩ := q wd1 _ c1 H1 l1 R1 hp
  cases e'
  exact ⟨k, e, hp'⟩
theorem jw_and1 (h : JT X W a ca) : JW X W (.BoolOp .And [a] pos) ca := by
  obtain ⟨tt, p1, r1⟩ := h
  exact ⟨_, pw_and1 p1, r1⟩
theorem jw_or1 (h : JT X W a ca) : JW X W (.BoolOp .Or [a] pos) ca := by
  obtain ⟨tt, p1, r1⟩ := h
  exact ⟨_, pw_or1 p1, r1⟩
theorem ref_andT {ta tb : TT} (r1 : RefT X W ta ca) (r2 : RefT X W tb cb) : RefT X W (tAnd ta tb) (.and ca cb) := by
  intro wd F τ cs σ H P PX Q R rs h q x
  refine r1 wd F τ cs σ H _ PX _ R rs h (fun wd1 d c1 H1 l1 R1 h1 => ?_) x
  cases d with
  | bl k =>
    refine ⟨k, rfl, ?_⟩
    cases k with
    | true => exact r2 wd1 F τ c1 σ H1 P PX Q R1 (rs.mono l1) h1 (fun wd2 d2 c2 H2 l2 => q wd2 d2 c2 H2 (l1.trans l2)) (x.mono l1)
    | false =>
      obtain ⟨k', e', hp'⟩ := q wd1 _ c1 H1 l1 R1 h1
      cases e'
      exact hp'
  | _ => exact h1.elim
theorem ref_orT {ta tb : TT} (r1 : RefT X W ta ca) (r2 : RefT X W tb cb) : RefT X W (tOr ta tb) (.or ca cb) := by
  intro wd F τ cs σ H P PX Q R rs h q x
  refine r1 wd F τ cs σ H _ PX _ R rs h (fun wd1 d c1 H1 l1 R1 h1 => ?_) x
  cases d with
  | bl k =>
    refine ⟨k, rfl, ?_⟩
    cases k with
    | false => exact r2 wd1 F τ c1 σ H1 P PX Q R1 (rs.mono l1) h1 (fun wd2 d2 c2 H2 l2 => q wd2 d2 c2 H2 (l1.trans l2)) (x.mono l1)
    | true =>
      obtain ⟨k', e', hp'⟩ := q wd1 _ c1 H1 l1 R1 h1
      cases e'
      exact hp'
  | _ => exact h1.elim
theorem jw_and (h1 : JT X W a ca) (h2 : JW X W (.BoolOp .And (b :: rest) pos) cb) : JW X W (.BoolOp .And (a :: b :: rest) pos) (.and ca cb) := by
  obtain ⟨ta, p1, r1⟩ := h1
  obtain ⟨tb, p2, r2⟩ := h2
  exact ⟨_, pw_and p1 p2, ref_andT r1 r2⟩
theorem jw_or (h1 : JT X W a ca) (h2 : JW X W (.BoolOp .Or (b :: rest) pos) cb) : JW X W (.BoolOp .Or (a :: b :: rest) pos) (.or ca cb) := by
  obtain ⟨ta, p1, r1⟩ := h1
  obtain ⟨tb, p2, r2⟩ := h2
  exact ⟨_, pw_or p1 p2, ref_orT r1 r2⟩
/-! ### the same as values -/
theorem je_one {op} (h : JE X W a ca) : JE X W (.BoolOp op [a] pos) ca := by
  obtain ⟨ta, p1, r1⟩ := h
  exact ⟨_, pe_one p1, r1⟩
theorem je_and (h1 : JE X W a ca) (h2 : JE X W (.BoolOp .And (b :: rest) pos) cb) : JE X W (.BoolOp .And (a :: b :: rest) pos) (.and ca cb) := by
  obtain ⟨ta, p1, r1⟩ := h1
  obtain ⟨tb, p2, r2⟩ := h2
  refine ⟨_, pe_and p1 p2, fun wd F τ cs σ H P PX Q R rs h q x => ?_⟩
  refine r1 wd F τ cs σ H _ PX _ R rs h (fun wd1 d c1 v H1 l1 R1 rv h1 => ?_) x
  cases d with
  | bl k =>
    refine ⟨k, rv, ?_⟩
    cases k with
    | true => exact r2 wd1 F τ c1 σ H1 P PX Q R1 (rs.mono l1) h1 (q.mono l1) (x.mono l1)
    | false => exact q wd1 (.bl false) c1 _ H1 l1 R1 rfl h1
  | _ => exact h1.elim
theorem je_or (h1 : JE X W a ca) (h2 : JE X W (.BoolOp .Or (b :: rest) pos) cb) : JE X W (.BoolOp .Or (a :: b :: rest) pos) (.or ca cb) := by
  obtain ⟨ta, p1, r1⟩ := h1
  obtain ⟨tb, p2, r2⟩ := h2
  refine ⟨_, pe_or p1 p2, fun wd F τ cs σ H P PX Q R rs h q x => ?_⟩
  refine r1 wd F τ cs σ H _ PX _ R rs h (fun wd1 d c1 v H1 l1 R1 rv h1 => ?_) x
  cases d with
  | bl k =>
    refine ⟨k, rv, ?_⟩
    cases k with
    | false => exact r2 wd1 F τ c1 σ H1 P PX Q R1 (rs.mono l1) h1 (q.mono l1) (x.mono l1)
    | true => exact q wd1 (.bl true) c1 _ H1 l1 R1 rfl h1
  | _ => exact h1.elim
theorem je_not (h : JE X W a ca) : JE X W (.UnaryOp .Not a pos) (.app sNot (.cons ca .nil)) := by
  obtain ⟨ta, p1, r1⟩ := h
  refine ⟨_, pe_not p1, fun wd F τ cs σ H P PX Q R rs h q x => ?_⟩
  refine r1 wd F τ cs σ H _ PX _ R rs h (fun wd1 d c1 v H1 l1 R1 rv h1 => ?_) x
  obtain ⟨k, e, hp⟩ := sNot_inv (PX := PX) h1
  subst e
  exact ⟨k, rv, q wd1 (.bl (!k)) c1 _ H1 l1 R1 rfl hp⟩
theorem je_if (h : JT X W c cc) (h1 : JE X W a ca) (h2 : JE X W b cb) : JE X W (.IfExp c a b pos) (.ite cc ca cb) := by
  obtain ⟨tc, p0, r0⟩ := h
  obtain ⟨ta, p1, r1⟩ := h1
  obtain ⟨tb, p2, r2⟩ := h2
  refine ⟨_, pe_ifExp p0 p1 p2, fun wd F τ cs σ H P PX Q R rs h q x => ?_⟩
  refine r0 wd F τ cs σ H _ PX _ R rs h (fun wd1 d c1 H1 l1 R1 h1 => ?_) x
  cases d with
  | bl k =>
    refine ⟨k, rfl, ?_⟩
    cases k with
    | true => exact r1 wd1 F τ c1 σ H1 P PX Q R1 (rs.mono l1) h1 (q.mono l1) (x.mono l1)
    | false => exact r2 wd1 F τ c1 σ H1 P PX Q R1 (rs.mono l1) h1 (q.mono l1) (x.mono l1)
  | _ => exact h1.elim
/-! ### chains -/
theorem ref_chain {op op' : CmpOp} {r r' : R2} {s1 s2 : Spec} {ta tb tc : TE} (h1 : Ref2 X.K r s1) (h2 : Ref2 X.K r' s2) (ha : RefE X W ta ca) (hb : RefE X W tb cb) (hc : RefE X W tc cc) : RefE X W (tChain r r' ta tb tc) (.chain s1 s2 ca cb cc) := by
  intro wd F τ cs σ H P PX Q R rs h q x
  refine ha wd F τ cs σ H _ PX _ R rs h (fun wd1 d1 c1 v1 H1 l1 R1 rv1 h1' => ?_) x
  refine hb wd1 F τ c1 σ H1 _ PX _ R1 (rs.mono l1) h1' (fun wd2 d2 c2 v2 H2 l2 R2 rv2 h2' => ?_) (x.mono l1)
  refine h1 wd2 F c2 H2 d1 d2 v1 v2 _ PX _ R2 (rv1.mono l2) rv2 h2' fun wd3 d3 c3 v3 H3 l3 R3 rv3 h3 => ?_
  cases d3 with
  | bl k =>
    refine ⟨k, rv3, ?_⟩
    have l13 := l1.trans (l2.trans l3)
    cases k with
    | true =>
      refine hc wd3 F τ c3 σ H3 _ PX _ R3 (rs.mono l13) h3 (fun wd4 d4 c4 v4 H4 l4 R4 rv4 h4 => ?_) (x.mono l13)
      refine h2 wd4 F c4 H4 d2 d4 v2 v4 _ PX _ R4 (rv2.mono (l3.trans l4)) rv4 h4 fun wd5 d5 c5 v5 H5 l5 R5 rv5 h5 => ?_
      cases d5 with
      | bl k' => exact q wd5 _ c5 _ H5 (l13.trans (l4.trans l5)) R5 rv5 h5
      | _ => exact h5.elim
    | false => exact q wd3 (.bl false) c3 _ H3 l13 R3 rfl h3
  | _ => exact h3.elim
theorem j_chain {op op' : CmpOp} {r r' : R2} {s1 s2 : Spec} (ho : OpR X (compareOp op) r) (ho' : OpR X (compareOp op') r') (h1 : Ref2 X.K r s1) (h2 : Ref2 X.K r' s2) (ha : JE X W a ca) (hb : JE X W b cb) (hc : JE X W c cc)
    (hm : lastMarks [op, op'] [b, c] = false := by with_unfolding_all rfl) : JE X W (.Compare a [op, op'] [b, c] pos) (.chain s1 s2 ca cb cc) := by
  obtain ⟨ta, p1, r1⟩ := ha
  obtain ⟨tb, p2, r2⟩ := hb
  obtain ⟨tc, p3, r3⟩ := hc
  exact ⟨_, pe_chain ho ho' p1 p2 p3 hm, ref_chain (op := op) (op' := op') h1 h2 r1 r2 r3⟩
theorem jt_chain {op op' : CmpOp} {r r' : R2} {s1 s2 : Spec} (ho : OpR X (compareOp op) r) (ho' : OpR X (compareOp op') r') (h1 : Ref2 X.K r s1) (h2 : Ref2 X.K r' s2) (ha : JE X W a ca) (hb : JE X W b cb) (hc : JE X W c cc)
    (hm : lastMarks [op, op'] [b, c] = false := by with_unfolding_all rfl) : JT X W (.Compare a [op, op'] [b, c] pos) (.chain s1 s2 ca cb cc) := by
  obtain ⟨ta, p1, r1⟩ := ha
  obtain ⟨tb, p2, r2⟩ := hb
  obtain ⟨tc, p3, r3⟩ := hc
  exact ⟨_, pt_chain ho ho' p1 p2 p3 hm, ref_test (ref_chain (op := op) (op' := op') h1 h2 r1 r2 r3)⟩
theorem j_chLeLt (ha : JE X W a ca) (hb : JE X W b cb) (hc : JE X W c cc) (hm : lastMarks [.LtE, .Lt] [b, c] = false := by with_unfolding_all rfl) : JE X W (.Compare a [.LtE, .Lt] [b, c] pos) (.chain sLe sLt ca cb cc) := j_chain op_le op_lt (ref_int0 fun _ _ _ => rfl) (ref_int0 fun _ _ _ => rfl) ha hb hc hm
theorem jt_chLeLt (ha : JE X W a ca) (hb : JE X W b cb) (hc : JE X W c cc) (hm : lastMarks [.LtE, .Lt] [b, c] = false := by with_unfolding_all rfl) : JT X W (.Compare a [.LtE, .Lt] [b, c] pos) (.chain sLe sLt ca cb cc) := jt_chain op_le op_lt (ref_int0 fun _ _ _ => rfl) (ref_int0 fun _ _ _ => rfl) ha hb hc hm
theorem j_chLeLe (ha : JE X W a ca) (hb : JE X W b cb) (hc : JE X W c cc) (hm : lastMarks [.LtE, .LtE] [b, c] = false := by with_unfolding_all rfl) : JE X W (.Compare a [.LtE, .LtE] [b, c] pos) (.chain sLe sLe ca cb cc) := j_chain op_le op_le (ref_int0 fun _ _ _ => rfl) (ref_int0 fun _ _ _ => rfl) ha hb hc hm
theorem jt_chLeLe (ha : JE X W a ca) (hb : JE X W b cb) (hc : JE X W c cc) (hm : lastMarks [.LtE, .LtE] [b, c] = false := by with_unfolding_all rfl) : JT X W (.Compare a [.LtE, .LtE] [b, c] pos) (.chain sLe sLe ca cb cc) := jt_chain op_le op_le (ref_int0 fun _ _ _ => rfl) (ref_int0 fun _ _ _ => rfl) ha hb hc hm

/-! ### targets -/
def RefG (X : Cx) (g : TG) (pt : Pat) (own : List Nat) : Prop := ∀ wd F τ cs σ H d v τ' (Q : St → Hp → Prop), Rl X.K wd F cs H → RS X.K wd τ σ → Rp X.K wd d v → bindP pt [d] τ = some τ' →
  (∀ σ', RS X.K wd τ' σ' → L2.wipe σ' own = L2.wipe σ own → Q σ' H) → g v σ H Q
def RefGs (X : Cx) (g : TGs) (pt : Pat) (own : List Nat) : Prop := ∀ wd F τ cs σ H ds vs τ' (Q : St → Hp → Prop), Rl X.K wd F cs H → RS X.K wd τ σ → RpL X.K wd ds vs → bindP pt ds τ = some τ' →
  (∀ σ', RS X.K wd τ' σ' → L2.wipe σ' own = L2.wipe σ own → Q σ' H) → g vs σ H Q
def JG (X : Cx) (tg : Expr) (pt : Pat) (own : List Nat) : Prop := ∃ g, PG X tg g ∧ RefG X g pt own
def JGs (X : Cx) (tgs : List Expr) (pt : Pat) (own : List Nat) (n : Nat) : Prop := ∃ g, PGs X tgs g ∧ RefGs X g pt own ∧ ∀ ds (τ : Sl) τ', bindP pt ds τ = some τ' → ds.length = n
theorem wipe_in {σ : St} {i : Nat} : ∀ {vs : List Nat}, i ∈ vs → (L2.wipe σ vs)[i]? = if i < σ.length then some none else none
  | v :: vs, h => by
    show ((L2.wipe σ vs).set v none)[i]? = _
    by_cases e : i = v
    · subst e
      by_cases hl : i < σ.length
      · rw [if_pos hl, List.getElem?_set_self (by rw [L2.wipe_length]; exact hl)]
      · rw [if_neg hl, List.getElem?_eq_none (by rw [List.length_set, L2.wipe_length]; omega)]
    · rw [List.getElem?_set_ne (Ne.symm e)]
      exact wipe_in ((List.mem_cons.mp h).resolve_left e)
theorem wipe_set {σ : St} {i : Nat} {v : Option V} {own : List Nat} (h : i ∈ own) : L2.wipe (σ.set i v) own = L2.wipe σ own := by
  apply List.ext_getElem?
  intro k
  by_cases hk : k ∈ own
  · rw [wipe_in hk, wipe_in hk, List.length_set]
  · rw [L2.wipe_out hk, L2.wipe_out hk, List.getElem?_set_ne (fun e : i = k => hk (by rw [← e]; exact h))]
theorem jg_nm (i : Nat) {own : List Nat} {x : Str} (hN : X.N.Nodup) (hi : X.N[i]? = some x) (hx : Loc X.env.scope x) (ho : i ∈ own) (hf : X.fn x = true ∨ X.env.scope.names.lookup x = some .local := by first | exact .inl rfl | exact .inr rfl | assumption) : JG X (.Name x pos) (.nm i) own := by
  refine ⟨_, pg_name hN hi hx hf, fun wd F τ cs σ H d v τ' Q R rs rv hb h => ?_⟩
  cases hb
  exact h _ (rs.set i rv) (wipe_set ho)
theorem jgs_nil {own : List Nat} : JGs X [] .nil own 0 := by
  refine ⟨_, pgs_nil, fun wd F τ cs σ H ds vs τ' Q R rs rv hb h => ?_, fun ds τ τ' h => ?_⟩
  · cases ds with
    | nil =>
      cases hb
      exact ⟨rv, h _ rs rfl⟩
    | cons _ _ => cases hb
  · cases ds with
    | nil => rfl
    | cons _ _ => cases h
theorem jgs_cons {own : List Nat} {tg : Expr} {tgs : List Expr} {p q : Pat} {n : Nat} (h1 : JG X tg p own) (h2 : JGs X tgs q own n) (hs : (assignEach (tg :: tgs) X.env).map (·.2) = assign tg X.env :: (assignEach tgs X.env).map (·.2) := by rfl) : JGs X (tg :: tgs) (.cons p q) own (n + 1) := by
  obtain ⟨g1, p1, r1⟩ := h1
  obtain ⟨g2, p2, r2, hl⟩ := h2
  refine ⟨_, pgs_cons p1 p2 hs, fun wd F τ cs σ H ds vs τ' Q R rs rv hb h => ?_, fun ds τ τ' h => ?_⟩
  · cases ds with
    | nil => cases hb
    | cons d ds =>
      obtain ⟨v, r, e, rv1, rv2⟩ := rv
      subst e
      have hb : (match bindP p [d] τ with
        | some σ' => bindP q ds σ'
        | none => none) = some τ' := hb
      cases e1 : bindP p [d] τ with
      | none => rw [e1] at hb; cases hb
      | some τ1 =>
        rw [e1] at hb
        refine ⟨v, r, rfl, r1 wd F τ cs σ H d v τ1 _ R rs rv1 e1 fun σ1 rs1 w1 => ?_⟩
        exact r2 wd F τ1 cs σ1 H ds r τ' Q R rs1 rv2 hb fun σ2 rs2 w2 => h σ2 rs2 (w2.trans w1)
  · cases ds with
    | nil => cases h
    | cons d ds =>
      have hb : (match bindP p [d] τ with
        | some σ' => bindP q ds σ'
        | none => none) = some τ' := h
      cases e1 : bindP p [d] τ with
      | none => rw [e1] at hb; cases hb
      | some τ1 =>
        rw [e1] at hb
        rw [List.length_cons, hl ds τ1 τ' hb]
theorem jg_tup {own : List Nat} {es : List Expr} {k n : Nat} {q : Pat} (hc : X.calm = true) (h : JGs X es q own n) (hn : (assignEach es X.env).length = n := by rfl) (hst : (assignEach es X.env).findIdx? (·.1) = none := by rfl) : JG X (.Tuple es k pos) (.tup q) own := by
  obtain ⟨g, p1, r1, hl⟩ := h
  refine ⟨_, pg_tup hc p1 hn hst, fun wd F τ cs σ H d v τ' Q R rs rv hb h => ?_⟩
  cases d with
  | tup ds =>
    have hb : bindP q ds τ = some τ' := hb
    obtain ⟨a, xs, e, s, r⟩ := rv
    exact ⟨a, xs, e, SqT.of (R.b _ _ s), by rw [r.length]; exact hl ds τ τ' hb, r1 wd F τ cs σ H ds xs τ' Q R rs r hb h⟩
  | _ => cases hb

/-! ### statements -/
variable {s s1 s2 : S} {st : Stmt} {sts : List Stmt}
theorem jss_nil : JSs X W [] .skip := ⟨_, pss_nil, fun wd F τ cs σ H P Q R rs h q => q.nx wd τ cs σ H (Wd.le.refl _) R rs h⟩
theorem jss_one (h : JS X W st s) : JSs X W [st] s := by
  obtain ⟨t, p1, r1⟩ := h
  exact ⟨_, pss_one p1, r1⟩
theorem ref_seq {t1 t2 : TS} (r1 : RefS X W t1 s1) (r2 : RefS X W t2 s2) : RefS X W (tSeq t1 t2) (.seq s1 s2) := by
  intro wd F τ cs σ H P Q R rs h q
  refine r1 wd F τ cs σ H _ _ R rs h ⟨fun wd1 τ1 c1 σ1 H1 l1 R1 rs1 h1 => ?_, q.bk, q.ct, q.rt, q.ex⟩
  exact r2 wd1 F τ1 c1 σ1 H1 P Q R1 rs1 h1 (q.mono l1)
theorem jss_cons (h1 : JS X W st s1) (h2 : JSs X W sts s2) : JSs X W (st :: sts) (.seq s1 s2) := by
  obtain ⟨t1, p1, r1⟩ := h1
  obtain ⟨t2, p2, r2⟩ := h2
  exact ⟨_, pss_cons p1 p2, ref_seq r1 r2⟩
/-- a dict's cell becomes known: it is locked for good -/
theorem Rl.freezeD {K : PySem.W.Frag} {wd : Wd} {F H : Hp} {cs : Cs} (R : Rl K wd F cs H) {n : Nat} {ob : Ob} {a : Addr} {u : HO} (hn : cs n = some ob) (ha : wd.r n = some a) (hH : H a = some u) (o : Obj) :
    wd.le ⟨upd wd.B a (.frz o u), wd.r, wd.k⟩ ∧ Rl K ⟨upd wd.B a (.frz o u), wd.r, wd.k⟩ F (del cs n) (upd H a (.frz o u)) := by
  obtain ⟨a', u', e1, e2, e3, e4, e5⟩ := R.cell n _ hn
  have ea : a' = a := Option.some.inj (e1.symm.trans ha)
  subst ea
  have le : wd.le ⟨upd wd.B a' (.frz o u), wd.r, wd.k⟩ := ⟨Ex.new e2, fun _ _ h => h⟩
  refine ⟨le, ⟨fun b w e => ?_, fun b w e => ?_, fun b w e => ?_, R.inj, fun m w e => ?_, fun m b e => ?_, R.top, R.rf, R.fe, fun p hp => ?_, R.btNew (fun q z => by cases z)⟩⟩
  · have e : upd wd.B a' (.frz o u) b = some w := e
    by_cases h : b = a'
    · subst h
      rw [upd_same] at e ⊢
      exact e
    · rw [upd_ne h] at e ⊢
      exact R.b b w e
  · rw [upd_ne (ne_of_none e e3)]
    exact R.f b w e
  · have e : upd wd.B a' (.frz o u) b = some w := e
    by_cases h : b = a'
    · subst h
      exact e3
    · rw [upd_ne h] at e
      exact R.bf b w e
  · unfold del at e
    by_cases hm : m = n
    · rw [if_pos hm] at e
      cases e
    · rw [if_neg hm] at e
      obtain ⟨b, x, f1, f2, f3, f4, f5⟩ := R.cell m w e
      have ne : b ≠ a' := fun z => hm (R.inj m n a' (by rw [← z]; exact f1) e1)
      exact ⟨b, x, f1, (upd_ne ne).trans f2, f3, (upd_ne ne).trans f4, f5.mono le⟩
  · by_cases h : b = a'
    · subst h
      exact ⟨_, upd_same, fun q z => by cases z⟩
    · obtain ⟨w, hw, hk⟩ := R.ran m b e
      exact ⟨w, by rw [upd_ne h]; exact hw, hk⟩
  · obtain ⟨ps, h1, h2, h3⟩ := R.tab p hp
    have ne : p.1 ≠ a' := fun z => by
      rw [z, e4] at h1
      exact e5.notbl ps (Option.some.inj h1)
    exact ⟨ps, by rw [upd_ne ne]; exact h1, h2, fun pos cv e => let ⟨c, e1, e2⟩ := h3 pos cv e; ⟨c, e1, le.B _ _ e2⟩⟩
def tOrLock (t : TS) : TS := fun D σ H => t D σ H ∨ ∃ d u, H d = some u ∧ Mut (some u) ∧ ∀ od, t D σ (upd H d (.frz od u))
theorem pss_orLock {X : Cx} {sts : List Stmt} {t : TS} (h : PSs X sts t) : PSs X sts (tOrLock t) := by
  refine ⟨fun pins s σ H D I hw => ?_⟩
  rcases hw with hw | ⟨d, u, hd, mu, hw⟩
  · exact h.run pins s σ H D I hw
  · obtain ⟨od, I1⟩ := I.lock hd mu
    exact h.run pins s σ _ D I1 (hw od)
/-- a list or a dict in a slot becomes a tree: no statement of the program's -/
theorem jss_frz (i : Nat) (h : JSs X W sts s) : JSs X W sts (.seq (.frz i) s) := by
  obtain ⟨t, p1, r1⟩ := h
  refine ⟨_, pss_orLock p1, fun wd F τ cs σ H P Q R rs h q => ?_⟩
  have h : (match getV τ i with
    | some (.ref n) => match cs n with
      | some (.lst xs) => wpS s (τ.set i (some (.lst xs))) (del cs n) P
      | some (.dic ks vs) => wpS s (τ.set i (some (.dic ks vs))) (del cs n) P
      | some (.dit l) => wpS s (τ.set i (some (.dic (l.map fun p => .tup (p.1.map kD)) (l.map (·.2))))) (del cs n) P
      | _ => False
    | _ => False) := h
  cases e : getV τ i with
  | none => rw [e] at h; exact h.elim
  | some d =>
    rw [e] at h
    cases d with
    | ref n =>
      have h : (match cs n with
        | some (.lst xs) => wpS s (τ.set i (some (.lst xs))) (del cs n) P
        | some (.dic ks vs) => wpS s (τ.set i (some (.dic ks vs))) (del cs n) P
        | some (.dit l) => wpS s (τ.set i (some (.dic (l.map fun p => .tup (p.1.map kD)) (l.map (·.2))))) (del cs n) P
        | _ => False) := h
      cases ec : cs n with
      | none => rw [ec] at h; exact h.elim
      | some o =>
        rw [ec] at h
        cases o with
        | lst xs =>
          obtain ⟨v, hv, a, ea, ev⟩ := rs.at_ i _ e
          obtain ⟨wd', a', le, ha', R', rp⟩ := R.freeze ec
          have : a' = a := Option.some.inj (ha'.symm.trans ea)
          subst this
          subst ev
          exact .inl (r1 wd' F _ _ σ H P Q R' ((rs.mono le).swap i hv rp) h (q.mono le))
        | dic ks vs =>
          obtain ⟨v, hv, a, ea, ev⟩ := rs.at_ i _ e
          obtain ⟨a', u, f1, f2, f3, f4, kvs, f5, f6, f7⟩ := R.cell n _ ec
          have : a' = a := Option.some.inj (f1.symm.trans ea)
          subst this
          subst ev f5
          refine .inr ⟨a', _, f4, trivial, fun od => ?_⟩
          obtain ⟨le, R'⟩ := R.freezeD ec ea f4 od
          exact r1 _ F _ _ σ _ P Q R' ((rs.mono le).swap i hv (show Rp X.K _ (.dic ks vs) (.ref a') from ⟨a', od, rfl, .inl ⟨kvs, upd_same, f6, RpL.mono le _ _ f7⟩⟩)) h (q.mono le)
        | dit l =>
          obtain ⟨v, hv, a, ea, ev⟩ := rs.at_ i _ e
          obtain ⟨a', u, f1, f2, f3, f4, kvs, f5, f6, f7⟩ := R.cell n _ ec
          have : a' = a := Option.some.inj (f1.symm.trans ea)
          subst this
          subst ev f5
          refine .inr ⟨a', _, f4, trivial, fun od => ?_⟩
          obtain ⟨le, R'⟩ := R.freezeD ec ea f4 od
          have ek : (l.map fun p => D.tup (p.1.map kD)) = kvs.map fun p => D.tup (p.1.map kD) := by
            have := congrArg (List.map fun k : List (Sum Int Str) => D.tup (k.map kD)) f6
            rw [List.map_map, List.map_map] at this
            exact this
          exact r1 _ F _ _ σ _ P Q R' ((rs.mono le).swap i hv (show Rp X.K _ (.dic (l.map fun p => .tup (p.1.map kD)) (l.map (·.2))) (.ref a') from ⟨a', od, rfl, .inr ⟨kvs, upd_same, ek, RpL.mono le _ _ f7⟩⟩)) h (q.mono le)
        | _ => exact h.elim
    | _ => exact h.elim
theorem js_pass : JS X W (.Pass pos) .skip := ⟨_, ps_pass, fun wd F τ cs σ H P Q R rs h q => q.nx wd τ cs σ H (Wd.le.refl _) R rs h⟩
theorem js_brk : JS X W (.Break pos) .brk := ⟨_, ps_break, fun wd F τ cs σ H P Q R rs h q => q.bk wd τ cs σ H (Wd.le.refl _) R rs h⟩
theorem js_cont : JS X W (.Continue pos) .cont := ⟨_, ps_continue, fun wd F τ cs σ H P Q R rs h q => q.ct wd τ cs σ H (Wd.le.refl _) R rs h⟩
theorem js_exp (h : JE X W e ce) (hs : swapsWith e none pos.line X.env = pure false := by rfl) : JS X W (.Expr e pos) (.exp ce) := by
  obtain ⟨t, p1, r1⟩ := h
  refine ⟨_, ps_expr p1 hs, fun wd F τ cs σ H P Q R rs h q => ?_⟩
  exact r1 wd F τ cs σ H _ _ _ R rs h (fun wd1 d c1 v H1 l1 R1 rv h1 => q.nx wd1 τ c1 σ H1 l1 R1 (rs.mono l1) h1) (q.xok rs)
theorem js_ret (h : JE X W e ce) : JS X W (.Return (some e) pos) (.ret ce) := by
  obtain ⟨t, p1, r1⟩ := h
  refine ⟨_, ps_ret p1, fun wd F τ cs σ H P Q R rs h q => ?_⟩
  exact r1 wd F τ cs σ H _ _ _ R rs h (fun wd1 d c1 v H1 l1 R1 rv h1 => q.rt wd1 d c1 v H1 l1 R1 rv h1) (q.xok rs)
theorem js_retN : JS X W (.Return none pos) (.ret (.c .non)) := ⟨_, ps_retN, fun wd F τ cs σ H P Q R rs h q => q.rt wd .non cs .non H (Wd.le.refl _) R rfl h⟩
theorem js_if {xs ys : List Stmt} (h : JT X W c cc) (h1 : JSs X W xs s1) (h2 : JSs X W ys s2) : JS X W (.If c xs ys pos) (.ite cc s1 s2) := by
  obtain ⟨t0, p0, r0⟩ := h
  obtain ⟨t1, p1, r1⟩ := h1
  obtain ⟨t2, p2, r2⟩ := h2
  refine ⟨_, ps_if p0 p1 p2, fun wd F τ cs σ H P Q R rs h q => ?_⟩
  refine r0 wd F τ cs σ H _ _ _ R rs h (fun wd1 d c1 H1 l1 R1 h1 => ?_) (q.xok rs)
  cases d with
  | bl k =>
    refine ⟨k, rfl, ?_⟩
    cases k with
    | true => exact r1 wd1 F τ c1 σ H1 P Q R1 (rs.mono l1) h1 (q.mono l1)
    | false => exact r2 wd1 F τ c1 σ H1 P Q R1 (rs.mono l1) h1 (q.mono l1)
  | _ => exact h1.elim
theorem js_set (i : Nat) {x : Str} {p' : Pos} (hN : X.N.Nodup) (hi : X.N[i]? = some x) (hx : Loc X.env.scope x) (he : JE X W e ce) (hs : swapsWith e (some (.Name x p')) pos.line X.env = pure false := by rfl) (hf : X.fn x = true ∨ X.env.scope.names.lookup x = some .local := by first | exact .inl rfl | exact .inr rfl | assumption) :
    JS X W (.Assign [.Name x p'] e pos) (.asg (.nm i) ce) := by
  obtain ⟨t, p1, r1⟩ := he
  refine ⟨_, ps_set hN hi hx p1 hs hf, fun wd F τ cs σ H P Q R rs h q => ?_⟩
  exact r1 wd F τ cs σ H _ _ _ R rs h (fun wd1 d c1 v H1 l1 R1 rv h1 => q.nx wd1 _ c1 _ H1 l1 R1 ((rs.mono l1).set i rv) h1) (q.xok rs)
theorem js_asg {tg : Expr} {pt : Pat} {own : List Nat} (he : JE X W e ce) (hg : JG X tg pt own) (hs : swapsWithSole [tg] e pos.line X.env = pure false := by rfl) (hw : swappedStores [tg] e X.env = pure none := by rfl)
    (h1 : (assignEach [tg] X.env).map (·.2) = [assign tg X.env] := by rfl) : JS X W (.Assign [tg] e pos) (.asg pt ce) := by
  obtain ⟨t, p1, r1⟩ := he
  obtain ⟨g, p2, r2⟩ := hg
  refine ⟨_, ps_asg p1 p2 hs hw h1, fun wd F τ cs σ H P Q R rs h q => ?_⟩
  refine r1 wd F τ cs σ H _ _ _ R rs h (fun wd1 d c1 v H1 l1 R1 rv h1 => ?_) (q.xok rs)
  cases eb : bindP pt [d] τ with
  | none => rw [eb] at h1; exact h1.elim
  | some τ' =>
    rw [eb] at h1
    exact r2 wd1 F τ c1 σ H1 d v τ' _ R1 (rs.mono l1) rv eb fun σ' rs' _ => q.nx wd1 τ' c1 σ' H1 l1 R1 rs' h1
theorem js_par (i j : Nat) {x y : Str} {px py pt : Pos} {kt k2 pt2} (hc : X.calm = true) (hN : X.N.Nodup) (hi : X.N[i]? = some x) (hj : X.N[j]? = some y) (hij : i ≠ j)
    (hx : X.env.scope.names.lookup x = some .local) (hy : X.env.scope.names.lookup y = some .local) (ha : JE X W a ca) (hb : JE X W b cb)
    (hw : swappedStores [.Tuple [.Name x px, .Name y py] kt pt] (.Tuple [a, b] k2 pt2) X.env = pure (some [x, y]))
    (h1 : starEach [a, b] X.env = (false, eval a X.env) :: starEach [b] X.env := by rfl) (h2 : starEach [b] X.env = (false, eval b X.env) :: starEach [] X.env := by rfl)
    (hs : swapsWithSole [.Tuple [.Name x px, .Name y py] kt pt] (.Tuple [a, b] k2 pt2) pos.line X.env = pure false := by rfl) :
    JS X W (.Assign [.Tuple [.Name x px, .Name y py] kt pt] (.Tuple [a, b] k2 pt2) pos) (.asg (.tup (.cons (.nm i) (.cons (.nm j) .nil))) (.app sTup (.cons ca (.cons cb .nil)))) := by
  obtain ⟨ta, p1, r1⟩ := ja_cons ha (ja_cons hb ja_nil h2) h1
  refine ⟨_, ps_par hc hN hi hj hij hx hy p1 hw hs, fun wd F τ cs σ H P Q R rs h q => ?_⟩
  have h : wpEs (.cons ca (.cons cb .nil)) τ cs (fun ds cs' => sTup ds cs' (fun d c2 => match bindP (.tup (.cons (.nm i) (.cons (.nm j) .nil))) [d] τ with
    | some σ' => P.nx σ' c2
    | none => False) (fun x c2 => P.ex x τ c2)) (fun x c2 => P.ex x τ c2) := h
  refine r1 wd F τ cs σ H _ _ _ R rs h (fun wd1 ds c1 vs H1 l1 R1 rv h1 => ?_) (q.xok rs)
  have h1 := h1.2
  match ds, rv, h1 with
  | [d1, d2], rv, h1 =>
    obtain ⟨v, w, e, rv1, rv2⟩ := rv.two
    exact ⟨v, w, e, q.nx wd1 _ c1 _ H1 l1 R1 (((rs.mono l1).set i rv1).set j rv2) h1⟩
  | [], _, h1 => exact h1.elim
  | [_], _, h1 => exact h1.elim
  | _ :: _ :: _ :: _, _, h1 => exact h1.elim
theorem js_par3 (i j l : Nat) {x y z : Str} {px py pz pt : Pos} {kt k2 pt2} (hc : X.calm = true) (hN : X.N.Nodup) (hi : X.N[i]? = some x) (hj : X.N[j]? = some y) (hl : X.N[l]? = some z) (hij : i ≠ j) (hil : i ≠ l) (hjl : j ≠ l)
    (hx : X.env.scope.names.lookup x = some .local) (hy : X.env.scope.names.lookup y = some .local) (hz : X.env.scope.names.lookup z = some .local) (ha : JE X W a ca) (hb : JE X W b cb) (hcc : JE X W c cc)
    (hw : swappedStores [.Tuple [.Name x px, .Name y py, .Name z pz] kt pt] (.Tuple [a, b, c] k2 pt2) X.env = pure (some [x, y, z]))
    (h1 : starEach [a, b, c] X.env = (false, eval a X.env) :: starEach [b, c] X.env := by rfl) (h2 : starEach [b, c] X.env = (false, eval b X.env) :: starEach [c] X.env := by rfl) (h3 : starEach [c] X.env = (false, eval c X.env) :: starEach [] X.env := by rfl)
    (hs : swapsWithSole [.Tuple [.Name x px, .Name y py, .Name z pz] kt pt] (.Tuple [a, b, c] k2 pt2) pos.line X.env = pure false := by rfl) :
    JS X W (.Assign [.Tuple [.Name x px, .Name y py, .Name z pz] kt pt] (.Tuple [a, b, c] k2 pt2) pos) (.asg (.tup (.cons (.nm i) (.cons (.nm j) (.cons (.nm l) .nil)))) (.app sTup (.cons ca (.cons cb (.cons cc .nil))))) := by
  obtain ⟨ta, p1, r1⟩ := ja_cons ha (ja_cons hb (ja_cons hcc ja_nil h3) h2) h1
  refine ⟨_, ps_par3 hc hN hi hj hl hij hil hjl hx hy hz p1 hw hs, fun wd F τ cs σ H P Q R rs h q => ?_⟩
  have h : wpEs (.cons ca (.cons cb (.cons cc .nil))) τ cs (fun ds cs' => sTup ds cs' (fun d c2 => match bindP (.tup (.cons (.nm i) (.cons (.nm j) (.cons (.nm l) .nil)))) [d] τ with
    | some σ' => P.nx σ' c2
    | none => False) (fun x c2 => P.ex x τ c2)) (fun x c2 => P.ex x τ c2) := h
  refine r1 wd F τ cs σ H _ _ _ R rs h (fun wd1 ds c1 vs H1 l1 R1 rv h1 => ?_) (q.xok rs)
  have h1 := h1.2
  match ds, rv, h1 with
  | [d1, d2, d3], rv, h1 =>
    obtain ⟨u, v, w, e, rv1, rv2, rv3⟩ := rv.three
    exact ⟨u, v, w, e, q.nx wd1 _ c1 _ H1 l1 R1 ((((rs.mono l1).set i rv1).set j rv2).set l rv3) h1⟩
  | [], _, h1 => exact h1.elim
  | [_], _, h1 => exact h1.elim
  | [_, _], _, h1 => exact h1.elim
  | _ :: _ :: _ :: _ :: _, _, h1 => exact h1.elim
end
end G

/-! GLoop: while, for, comprehensions, calls of defs. -/
namespace G
open PySem PySem.Spec L2
open Evl (Ex)
section
variable {X : Cx} {W : WX} {pos : Pos} {a b c e : Expr} {ca cb cc ce : E} {K : PySem.W.Frag} {p : Pos} {rest : List Expr} {s s1 s2 : S} {st : Stmt} {sts : List Stmt}
/-! ### while -/
theorem js_while (hp : PassesOwn (model X.prog X.w) X.A X.env X.xe) (h : JT X W c cc) (h1 : JSs X W sts s1) : JS X W (.While c sts [] pos) (.whl cc s1) := by
  obtain ⟨t0, p0, r0⟩ := h
  obtain ⟨t1, p1, r1⟩ := h1
  refine ⟨_, ps_while hp p0 p1, fun wd F τ cs σ H P Q R rs h q => ?_⟩
  obtain ⟨n, h⟩ := h
  refine ⟨fun m σ' H' => ∃ wd' τ' cs', wd.le wd' ∧ Rl X.K wd' F cs' H' ∧ RS X.K wd' τ' σ' ∧ whlN (wpE cc) (wpS s1) P m τ' cs', ⟨n, wd, τ, cs, Wd.le.refl _, R, rs, h⟩, ?_⟩
  rintro m σ' H' ⟨wd', τ', cs', l', R', rs', h'⟩
  cases m with
  | zero => exact h'.elim
  | succ m =>
    refine r0 wd' F τ' cs' σ' H' _ _ _ R' rs' h' (fun wd1 d c1 H1 l1 R1 h1 => ?_) ((q.mono l').xok rs')
    rcases h1 with ⟨e, h1⟩ | ⟨e, h1⟩
    · refine ⟨true, e, ?_⟩
      rw [if_pos rfl]
      have l2 := l'.trans l1
      refine ⟨fun σ2 H2 => ∃ wd2 τ2 cs2, wd.le wd2 ∧ Rl X.K wd2 F cs2 H2 ∧ RS X.K wd2 τ2 σ2 ∧ whlN (wpE cc) (wpS s1) P m τ2 cs2, fun σ2 H2 z => ⟨m, Nat.lt_succ_self m, z⟩, ?_⟩
      refine r1 wd1 F τ' c1 σ' H1 _ _ R1 (rs'.mono l1) h1 ⟨fun wd3 τ3 c3 σ3 H3 l3 R3 rs3 h3 => ⟨wd3, τ3, c3, l2.trans l3, R3, rs3, h3⟩, (q.mono l2).nx, fun wd3 τ3 c3 σ3 H3 l3 R3 rs3 h3 => ⟨wd3, τ3, c3, l2.trans l3, R3, rs3, h3⟩, (q.mono l2).rt, (q.mono l2).ex⟩
    · refine ⟨false, e, ?_⟩
      rw [if_neg Bool.false_ne_true]
      exact q.nx wd1 τ' c1 σ' H1 (l'.trans l1) R1 (rs'.mono l1) h1

/-! ### what is walked -/
/-- J yields the items, as long as the guard holds -/
structure ItOk (X : Cx) (wd : Wd) (F : Hp) (items : List D) (grd : Cs → Prop) (J : It) : Prop where
  go : ∀ wd' F' cs H i d, wd.le wd' → Rl X.K wd' F' cs H → grd cs → items[i]? = some d → J.go i H ∧ ∀ x H', J.yld i H x H' → ∃ wd'', wd'.le wd'' ∧ Rl X.K wd'' F' cs H' ∧ Rp X.K wd'' d x
  stop : ∀ wd' F' cs H, wd.le wd' → Rl X.K wd' F' cs H → grd cs → J.stop items.length H
def RefI (X : Cx) (W : WX) (wi : TI) (isp : ISpec) (as : Es) : Prop := ∀ wd F τ cs σ H (R' : List D → (Cs → Prop) → Cs → Prop) (PX : KX) (R : It → Hp → Prop), Rl X.K wd F cs H → RS X.K wd τ σ →
  wpEs as τ cs (fun ds c1 => isp ds c1 fun items grd => R' items grd c1) PX → (∀ wd1 items grd c1 J H1, wd.le wd1 → Rl X.K wd1 F c1 H1 → ItOk X wd1 F items grd J → R' items grd c1 → R J H1) → XOk X W wd F σ PX → wi σ H R
def JI (X : Cx) (W : WX) (tg iter : Expr) (isp : ISpec) (as : Es) : Prop := ∃ wi, PI X tg iter wi ∧ RefI X W wi isp as
theorem js_for {tg iter : Expr} {pt : Pat} {own : List Nat} {isp : ISpec} {as : Es} (hp : PassesOwn (model X.prog X.w) X.A X.env X.xe) (hc : X.calm = true) (hi : JI X W tg iter isp as) (hg : JG X tg pt own) (hb : JSs X W sts s1)
    (hs : ∀ x, foldedSetIterable iter X.env x = pure x := by intro _; rfl) : JS X W (.For tg iter sts [] pos) (.fr pt isp as s1) := by
  obtain ⟨wi, p0, r0⟩ := hi
  obtain ⟨g, p1, r1⟩ := hg
  obtain ⟨t, p2, r2⟩ := hb
  refine ⟨_, ps_for hp hc p0 p1 p2 hs, fun wd F τ cs σ H P Q R rs h q => ?_⟩
  refine r0 wd F τ cs σ H (fun items grd c1 => forL pt grd (wpS s1) P items τ c1) _ _ R rs h (fun wd1 items grd c1 J H1 l1 R1 it h1 => ?_) (q.xok rs)
  refine ⟨fun i m σ' H' => ∃ wd' τ' cs', wd1.le wd' ∧ Rl X.K wd' F cs' H' ∧ RS X.K wd' τ' σ' ∧ m = items.length - i ∧ i ≤ items.length ∧ forL pt grd (wpS s1) P (items.drop i) τ' cs', ⟨items.length, wd1, τ, c1, Wd.le.refl _, R1, rs.mono l1, by simp, Nat.zero_le _, h1⟩, ?_⟩
  rintro i m σ' H' ⟨wd', τ', cs', l', R', rs', em, hle, h'⟩
  by_cases hi : i < items.length
  · have ed : items.drop i = items[i] :: items.drop (i + 1) := List.drop_eq_getElem_cons hi
    rw [ed] at h'
    obtain ⟨hg, h'⟩ := h'
    obtain ⟨g0, gy⟩ := it.go wd' F cs' H' i items[i] l' R' hg (List.getElem?_eq_getElem hi)
    cases eb : bindP pt [items[i]] τ' with
    | none => rw [eb] at h'; exact h'.elim
    | some τ1 =>
      rw [eb] at h'
      refine .inr ⟨g0, fun σ2 H2 => ∃ wd' τ' cs', wd1.le wd' ∧ Rl X.K wd' F cs' H2 ∧ RS X.K wd' τ' σ2 ∧ forL pt grd (wpS s1) P (items.drop (i + 1)) τ' cs', fun σ2 H2 ⟨wd2, τ2, c2, l2, R2, rs2, h2⟩ => ⟨items.length - (i + 1), by omega, wd2, τ2, c2, l2, R2, rs2, rfl, hi, h2⟩, fun x H2 y => ?_⟩
      obtain ⟨wd2, l2, R2, rv⟩ := gy x H2 y
      refine r1 wd2 F τ' cs' σ' H2 items[i] x τ1 _ R2 (rs'.mono l2) rv eb fun σ3 rs3 _ => ?_
      have l12 := l'.trans l2
      have q2 := q.mono (l1.trans l12)
      exact r2 wd2 F τ1 cs' σ3 H2 _ _ R2 rs3 h' ⟨fun wd4 τ4 c4 σ4 H4 l4 R4 rs4 h4 => ⟨wd4, τ4, c4, l12.trans l4, R4, rs4, h4⟩, q2.nx, fun wd4 τ4 c4 σ4 H4 l4 R4 rs4 h4 => ⟨wd4, τ4, c4, l12.trans l4, R4, rs4, h4⟩, q2.rt, q2.ex⟩
  · have ei : i = items.length := by omega
    subst ei
    rw [List.drop_length] at h'
    exact .inl ⟨it.stop wd' F cs' H' l' R' h'.1, q.nx wd' τ' cs' σ' H' (l1.trans l') R' rs' h'.2⟩
end
end G

/-! GIter: lists, tuples, ranges, zips walked; comprehensions. -/
namespace G
open PySem PySem.Spec L2
open Evl (Ex)
section
variable {X : Cx} {W : WX} {pos : Pos} {a b c e : Expr} {ca cb cc ce : E} {K : PySem.W.Frag} {p : Pos} {rest : List Expr} {s s1 s2 : S} {st : Stmt} {sts : List Stmt}
/-- a list that stays as the guard says -/
theorem Rl.staysL {wd : Wd} {F H : Hp} {cs : Cs} (R : Rl K wd F cs H) {d : D} {v : V} {xs : List D} (r : Rp K wd d v) (h : G.getL d cs = some xs) :
    ∃ a, v = .ref a ∧ ∀ wd' F' cs' H', wd.le wd' → Rl K wd' F' cs' H' → grdL d cs cs' → ∃ vs, H' a = some (.lst vs) ∧ RpL K wd' xs vs := by
  obtain ⟨a, vs, e, s, q⟩ := R.getL r h
  refine ⟨a, e, fun wd' F' cs' H' l R' g => ?_⟩
  have h' : G.getL d cs' = some xs := by
    cases d with
    | ref n =>
      have g : cs' n = cs n := g
      unfold G.getL at h ⊢
      simp only [g]
      exact h
    | lst ys => exact h
    | _ => cases h
  obtain ⟨a', vs', e', s', q'⟩ := R'.getL (r.mono l) h'
  rw [e] at e'
  cases e'
  exact ⟨vs', s', q'⟩
theorem Rl.staysT {wd : Wd} {F H : Hp} {cs : Cs} (R : Rl K wd F cs H) {v : V} {xs : List D} (r : Rp K wd (.tup xs) v) :
    ∃ a, v = .ref a ∧ ∀ wd' F' cs' H', wd.le wd' → Rl K wd' F' cs' H' → ∃ vs, SqT K H' a vs ∧ RpL K wd' xs vs := by
  obtain ⟨a, vs, e, s, q⟩ := r
  exact ⟨a, e, fun wd' F' cs' H' l R' => ⟨vs, SqT.of ((l.B.trans R'.b) _ _ s), RpL.mono l _ _ q⟩⟩
theorem getQ_cases {d : D} {cs : Cs} {xs : List D} (h : getQ d cs = some xs) : d = .tup xs ∨ getL d cs = some xs := by
  cases d with
  | tup ys => cases h; exact .inl rfl
  | lst ys => exact .inr h
  | ref n => exact .inr h
  | _ => cases h
/-- over a list or a tuple -/
def iSeqA (K : PySem.W.Frag) (tl : TE) : TI := fun σ H R => tl σ H fun x H1 => ∃ a, x = .ref a ∧ (((∃ xs, SqL K H1 a xs) ∧ R (Itl K a) H1) ∨ ((∃ xs, SqT K H1 a xs) ∧ R (Itt K a) H1))
theorem pi_seqA {tg l : Expr} {tl : TE} (hl : PE X l tl) : PI X tg l (iSeqA X.K tl) := by
  refine ⟨fun pins s σ H R I h => thn (hl.run pins s σ H _ I h) fun v s1 z => ?_⟩
  obtain ⟨x, H1, I1, rx, a, ex, q1⟩ := z
  subst ex
  obtain rfl : v = Value.ref a := rx
  have fresh : ∀ b ∈ [s1.heap.objs.size], FpOk X pins H1 b := fun b hb => by
    rw [List.mem_singleton.mp hb]
    exact I1.fpOk (Nat.le_refl _) (I1.hok.fresh (Nat.le_refl _))
  rcases q1 with ⟨⟨xs, hq⟩, q⟩ | ⟨⟨xs, hq⟩, q⟩
  · obtain ⟨its, rv, pl, hz⟩ := I1.list hq
    exact wpAny_pyIter_list pl.isList ⟨s1.heap.objs.size, [s1.heap.objs.size], _, _, H1, rfl, I1.kept (t' := s1.toks) fun b o e => Heap.get?_push_of_some _ e, turn_list a _, ⟨_, Heap.get?_push_size _ rfl, rfl, rfl⟩, fresh, q⟩
  · obtain ⟨its, rv, pl, hz⟩ := I1.tuple hq
    exact wpAny_pyIter_tuple (show s1.heap.IsTuple a its.toArray from pl) ⟨s1.heap.objs.size, [s1.heap.objs.size], _, _, H1, rfl, I1.kept (t' := s1.toks) fun b o e => Heap.get?_push_of_some _ e, turn_tuple a _, ⟨_, Heap.get?_push_size _ rfl, rfl, rfl⟩, fresh, q⟩
theorem itOk_list {wd : Wd} {F : Hp} {xs : List D} {grd : Cs → Prop} {a : Addr} (h : ∀ wd' F' cs' H', wd.le wd' → Rl X.K wd' F' cs' H' → grd cs' → ∃ vs, H' a = some (.lst vs) ∧ RpL X.K wd' xs vs) : ItOk X wd F xs grd (Itl X.K a) := by
  refine ⟨fun wd' F' cs H i d l R g hd => ?_, fun wd' F' cs H l R g => ?_⟩
  · obtain ⟨vs, hv, r⟩ := h wd' F' cs H l R g
    obtain ⟨v, h1, h2⟩ := r.get hd
    refine ⟨⟨vs, v, SqL.of hv, h1⟩, fun x H' ⟨e, y⟩ => ?_⟩
    subst e
    have := y vs (SqL.of hv)
    rw [h1] at this
    cases this
    exact ⟨wd', Wd.le.refl _, R, h2⟩
  · obtain ⟨vs, hv, r⟩ := h wd' F' cs H l R g
    exact ⟨vs, SqL.of hv, by rw [r.length]; exact Nat.le_refl _⟩
theorem itOk_tup {wd : Wd} {F : Hp} {xs : List D} {grd : Cs → Prop} {a : Addr} (h : ∀ wd' F' cs' H', wd.le wd' → Rl X.K wd' F' cs' H' → ∃ vs, SqT X.K H' a vs ∧ RpL X.K wd' xs vs) : ItOk X wd F xs grd (Itt X.K a) := by
  refine ⟨fun wd' F' cs H i d l R g hd => ?_, fun wd' F' cs H l R g => ?_⟩
  · obtain ⟨vs, hv, r⟩ := h wd' F' cs H l R
    obtain ⟨v, h1, h2⟩ := r.get hd
    refine ⟨⟨vs, v, hv, h1⟩, fun x H' ⟨e, y⟩ => ?_⟩
    subst e
    have := y vs hv
    rw [h1] at this
    cases this
    exact ⟨wd', Wd.le.refl _, R, h2⟩
  · obtain ⟨vs, hv, r⟩ := h wd' F' cs H l R
    exact ⟨vs, hv, by rw [r.length]; exact Nat.le_refl _⟩
theorem ji_seq {tg : Expr} (h : JE X W e ce) : JI X W tg e iSeq (.cons ce .nil) := by
  obtain ⟨te, p1, r1⟩ := h
  refine ⟨_, pi_seqA p1, fun wd F τ cs σ H R' PX Q R rs h q x => ?_⟩
  refine r1 wd F τ cs σ H _ PX _ R rs h (fun wd1 d c1 v H1 l1 R1 rv h1 => ?_) x
  have h1 : (match getQ d c1 with
    | some xs => R' xs (grdL d c1) c1
    | none => False) := h1
  cases eq : getQ d c1 with
  | none => rw [eq] at h1; exact h1.elim
  | some xs =>
    rw [eq] at h1
    rcases getQ_cases eq with ed | el
    · subst ed
      obtain ⟨a, ev, st⟩ := R1.staysT rv
      obtain ⟨vs, hv, _⟩ := st wd1 F c1 H1 (Wd.le.refl _) R1
      exact ⟨a, ev, .inr ⟨⟨vs, hv⟩, q wd1 xs _ c1 _ H1 l1 R1 (itOk_tup st) h1⟩⟩
    · obtain ⟨a, ev, st⟩ := R1.staysL rv el
      obtain ⟨vs, hv, _⟩ := st wd1 F c1 H1 (Wd.le.refl _) R1 (by unfold grdL; split <;> trivial)
      exact ⟨a, ev, .inl ⟨⟨vs, SqL.of hv⟩, q wd1 xs _ c1 _ H1 l1 R1 (itOk_list st) h1⟩⟩
theorem itOk_rng {wd : Wd} {F : Hp} (a b : Int) : ItOk X wd F (rgD a b) (fun _ => True) (Itr a (b - a).toNat) := by
  have hl : (rgD a b).length = (b - a).toNat := by unfold rgD; simp
  refine ⟨fun wd' F' cs H i d l R g hd => ?_, fun wd' F' cs H l R g => ?_⟩
  · have hi : i < (rgD a b).length := (List.getElem?_eq_some_iff.mp hd).1
    refine ⟨by show i < _; omega, fun x H' ⟨e, y⟩ => ?_⟩
    subst e y
    refine ⟨wd', Wd.le.refl _, R, ?_⟩
    unfold rgD at hd
    rw [List.getElem?_map, List.getElem?_range (by omega)] at hd
    cases hd
    rfl
  · show (b - a).toNat ≤ _
    rw [hl]
    exact Nat.le_refl _
theorem iRng1_inv {ds : List D} {cs : Cs} {R : List D → (Cs → Prop) → Prop} (h : iRng1 ds cs R) : ∃ j, ds = [.int j] ∧ -(2 ^ 62) ≤ j ∧ j < 2 ^ 62 ∧ R (rgD 0 j) (fun _ => True) := by
  unfold iRng1 at h
  split at h
  · exact ⟨_, rfl, h.1, h.2.1, h.2.2⟩
  · exact h.elim
theorem iRng2_inv {ds : List D} {cs : Cs} {R : List D → (Cs → Prop) → Prop} (h : iRng2 ds cs R) : ∃ i j, ds = [.int i, .int j] ∧ (-(2 ^ 62) ≤ i ∧ i < 2 ^ 62 ∧ -(2 ^ 62) ≤ j ∧ j < 2 ^ 62) ∧ R (rgD i j) (fun _ => True) := by
  unfold iRng2 at h
  split at h
  · exact ⟨_, _, rfl, h.1, h.2⟩
  · exact h.elim
theorem iZip_inv {ds : List D} {cs : Cs} {R : List D → (Cs → Prop) → Prop} (h : iZip ds cs R) : ∃ x y, ds = [x, y] ∧ ((∃ xs ys, x = .tup xs ∧ y = .tup ys ∧ R (zipD xs ys) (fun _ => True)) ∨ (∃ xs ys, getL x cs = some xs ∧ getL y cs = some ys ∧ R (zipD xs ys) (fun c => grdL x cs c ∧ grdL y cs c))) := by
  unfold iZip at h
  split at h
  · rename_i x y
    refine ⟨x, y, rfl, ?_⟩
    split at h
    · exact .inl ⟨_, _, rfl, rfl, h⟩
    · split at h
      · rename_i h1 h2
        exact .inr ⟨_, _, h1, h2, h⟩
      · exact h.elim
  · exact h.elim
theorem ji_rng1 {tg : Expr} (hg : Gl X "range") (hm : X.mg "range" = none) (h : JE X W a ca) (h1 : starEach [a] X.env = [(false, eval a X.env)] := by rfl) : JI X W tg (.Call (.Name "range" p) [a] [] pos) iRng1 (.cons ca .nil) := by
  obtain ⟨ta, p1, r1⟩ := ja_cons h ja_nil h1
  refine ⟨_, pi_range1 hg hm p1 h1, fun wd F τ cs σ H R' PX Q R rs h q x => ?_⟩
  refine r1 wd F τ cs σ H _ PX _ R rs h (fun wd1 ds c1 vs H1 l1 R1 rv h1 => ?_) x
  obtain ⟨j, ed, b1, b2, h2⟩ := iRng1_inv h1
  subst ed
  obtain ⟨v, e, rv⟩ := rv.one
  refine ⟨j, by rw [e, show v = _ from rv], b1, b2, ?_⟩
  have z := q wd1 (rgD 0 j) _ c1 (Itr 0 (j - 0).toNat) H1 l1 R1 (itOk_rng 0 j) h2
  rw [Int.sub_zero] at z
  exact z
theorem ji_rng2 {tg : Expr} (hg : Gl X "range") (hm : X.mg "range" = none) (ha : JE X W a ca) (hb : JE X W b cb) (h1 : starEach [a, b] X.env = [(false, eval a X.env), (false, eval b X.env)] := by rfl) (h2 : starEach [b] X.env = [(false, eval b X.env)] := by rfl) :
    JI X W tg (.Call (.Name "range" p) [a, b] [] pos) iRng2 (.cons ca (.cons cb .nil)) := by
  obtain ⟨ta, p1, r1⟩ := ja_cons ha (ja_cons hb ja_nil h2) (by rw [h1, h2])
  refine ⟨_, pi_range2 hg hm p1 h1 h2, fun wd F τ cs σ H R' PX Q R rs h q x => ?_⟩
  refine r1 wd F τ cs σ H _ PX _ R rs h (fun wd1 ds c1 vs H1 l1 R1 rv h1 => ?_) x
  obtain ⟨i, j, ed, b1, h2⟩ := iRng2_inv h1
  subst ed
  obtain ⟨v, w, e, rv, rw'⟩ := rv.two
  exact ⟨i, j, by rw [e, show v = _ from rv, show w = _ from rw'], b1, q wd1 (rgD i j) _ c1 (Itr i (j - i).toNat) H1 l1 R1 (itOk_rng i j) h2⟩
theorem zipD_get : ∀ {xs ys : List D} {i : Nat} {d : D}, (zipD xs ys)[i]? = some d → ∃ x y, xs[i]? = some x ∧ ys[i]? = some y ∧ d = .tup [x, y]
  | [], _, _, _, h => by simp [zipD] at h
  | _ :: _, [], _, _, h => by simp [zipD] at h
  | x :: xs, y :: ys, 0, d, h => by
    simp [zipD] at h
    exact ⟨x, y, rfl, rfl, h.symm⟩
  | x :: xs, y :: ys, i + 1, d, h => by
    obtain ⟨x', y', h1, h2, h3⟩ := zipD_get (i := i) (d := d) (by simpa [zipD] using h)
    exact ⟨x', y', by simpa using h1, by simpa using h2, h3⟩
theorem zipD_len : ∀ (xs ys : List D), (zipD xs ys).length = min xs.length ys.length
  | [], _ => by simp [zipD]
  | _ :: _, [] => by simp [zipD]
  | x :: xs, y :: ys => by simp [zipD, zipD_len xs ys]
theorem ji_zip {tpos : Pos} {elts : List Expr} {kk : Nat} (hg : Gl X "zip") (hm : X.mg "zip" = none) (ha : JE X W a ca) (hb : JE X W b cb)
    (h1 : starEach [a, b] X.env = (false, eval a X.env) :: starEach [b] X.env := by rfl) (h2 : starEach [b] X.env = (false, eval b X.env) :: starEach [] X.env := by rfl) (hpl : (backTo pos (starEach [b] X.env)).any (·.1) = false := by rfl) :
    JI X W (.Tuple elts kk tpos) (.Call (.Name "zip" p) [a, b] [] pos) iZip (.cons ca (.cons cb .nil)) := by
  obtain ⟨ta, p1, r1⟩ := ja_cons ha (ja_cons hb ja_nil h2) h1
  refine ⟨_, RZ.pi_zipA hg hm p1 h1 hpl, fun wd F τ cs σ H R' PX Q R rs h q x => ?_⟩
  refine r1 wd F τ cs σ H _ PX _ R rs h (fun wd1 ds c1 vs H1 l1 R1 rv h1 => ?_) x
  obtain ⟨dx, dy, ed, h3⟩ := iZip_inv h1
  subst ed
  obtain ⟨v, w, e, rv1, rv2⟩ := rv.two
  rcases h3 with ⟨xs, ys, e1, e2, h3⟩ | ⟨xs, ys, ex, ey, h3⟩
  · subst e1 e2
    obtain ⟨a1, ea, sa⟩ := R1.staysT rv1
    obtain ⟨b1, eb, sb⟩ := R1.staysT rv2
    obtain ⟨ws, hw, _⟩ := sa wd1 F c1 H1 (Wd.le.refl _) R1
    obtain ⟨zs, hz, _⟩ := sb wd1 F c1 H1 (Wd.le.refl _) R1
    refine ⟨a1, b1, ws, zs, by rw [e, ea, eb], .inr ⟨hw, hz, q wd1 _ _ c1 _ H1 l1 R1 ⟨fun wd' F' cs' H' i d l R g hd => ?_, fun wd' F' cs' H' l R g => ?_⟩ h3⟩⟩
    · obtain ⟨x, y, hx, hy, ed⟩ := zipD_get hd
      obtain ⟨ws, hw, rw'⟩ := sa wd' F' cs' H' l R
      obtain ⟨zs, hz, rz⟩ := sb wd' F' cs' H' l R
      obtain ⟨u, hu, ru⟩ := rw'.get hx
      obtain ⟨t, ht, rt⟩ := rz.get hy
      refine ⟨⟨ws, zs, u, t, hw, hz, hu, ht⟩, fun v' H2 ⟨T, x', y', ev, hT, eH, f1, f2⟩ => ?_⟩
      have e1 := f1 ws hw
      have e2 := f2 zs hz
      rw [hu] at e1
      rw [ht] at e2
      cases e1
      cases e2
      subst ev eH ed
      obtain ⟨wd'', l2, R2, r2⟩ := R.tup (ds := [x, y]) hT ⟨u, [t], rfl, ru, t, [], rfl, rt, rfl⟩
      exact ⟨wd'', l2, R2, r2⟩
    · obtain ⟨ws, hw, rw'⟩ := sa wd' F' cs' H' l R
      obtain ⟨zs, hz, rz⟩ := sb wd' F' cs' H' l R
      refine ⟨ws, zs, hw, hz, ?_⟩
      rw [zipD_len, rw'.length, rz.length]
      omega
  · obtain ⟨a1, ea, sa⟩ := R1.staysL rv1 ex
    obtain ⟨b1, eb, sb⟩ := R1.staysL rv2 ey
    have g0 : ∀ d : D, grdL d c1 c1 := fun d => by unfold grdL; split <;> trivial
    obtain ⟨ws, hw, _⟩ := sa wd1 F c1 H1 (Wd.le.refl _) R1 (g0 _)
    obtain ⟨zs, hz, _⟩ := sb wd1 F c1 H1 (Wd.le.refl _) R1 (g0 _)
    refine ⟨a1, b1, ws, zs, by rw [e, ea, eb], .inl ⟨SqL.of hw, SqL.of hz, q wd1 _ _ c1 _ H1 l1 R1 ⟨fun wd' F' cs' H' i d l R g hd => ?_, fun wd' F' cs' H' l R g => ?_⟩ h3⟩⟩
    · obtain ⟨x, y, hx, hy, ed⟩ := zipD_get hd
      obtain ⟨ws, hw, rw'⟩ := sa wd' F' cs' H' l R g.1
      obtain ⟨zs, hz, rz⟩ := sb wd' F' cs' H' l R g.2
      obtain ⟨u, hu, ru⟩ := rw'.get hx
      obtain ⟨t, ht, rt⟩ := rz.get hy
      refine ⟨⟨ws, zs, u, t, SqL.of hw, SqL.of hz, hu, ht⟩, fun v' H2 ⟨T, x', y', ev, hT, eH, f1, f2⟩ => ?_⟩
      have e1 := f1 ws (SqL.of hw)
      have e2 := f2 zs (SqL.of hz)
      rw [hu] at e1
      rw [ht] at e2
      cases e1
      cases e2
      subst ev eH ed
      obtain ⟨wd'', l2, R2, r2⟩ := R.tup (ds := [x, y]) hT ⟨u, [t], rfl, ru, t, [], rfl, rt, rfl⟩
      exact ⟨wd'', l2, R2, r2⟩
    · obtain ⟨ws, hw, rw'⟩ := sa wd' F' cs' H' l R g.1
      obtain ⟨zs, hz, rz⟩ := sb wd' F' cs' H' l R g.2
      refine ⟨ws, zs, SqL.of hw, SqL.of hz, ?_⟩
      rw [zipD_len, rw'.length, rz.length]
      omega
end
end G

/-! GComp: list comprehensions. -/
namespace G
open PySem PySem.Spec L2
open Evl (Ex)
section
variable {K : PySem.W.Frag} {wd : Wd} {F H : Hp} {cs : Cs} {q : Addr}
theorem fe_upd (fe : ∀ a o, F a = some o → ∃ xs, o = HO.lst xs) (ys : List V) : ∀ a o, upd F q (.lst ys) a = some o → ∃ xs, o = HO.lst xs := fun a o e => by
  by_cases h : a = q
  · subst h
    rw [upd_same] at e
    exact ⟨ys, (Option.some.inj e).symm⟩
  · rw [upd_ne h] at e
    exact fe a o e
theorem fe_back {o : HO} (fe : ∀ a u, upd F q o a = some u → ∃ xs, u = HO.lst xs) (fn : F q = none) : ∀ a u, F a = some u → ∃ xs, u = HO.lst xs := fun a u e => fe a u ((upd_ne (ne_of_none e fn)).trans e)
theorem Rl.fNew (R : Rl K wd F cs H) (hp : H q = none) (ys : List V) : Rl K wd (upd F q (.lst ys)) cs (upd H q (.lst ys)) := by
  have bn := R.bnone hp
  refine ⟨fun a u e => ?_, fun a u e => ?_, fun a u e => ?_, R.inj, fun n u e => ?_, fun n a e => ?_, R.top, fun n a e => ?_, fe_upd R.fe ys, R.tabNew hp (Ex.refl _), R.bt⟩
  · exact (upd_ne (ne_of_none e bn)).trans (R.b a u e)
  · by_cases h : a = q
    · subst h
      rw [upd_same] at e ⊢
      exact e
    · rw [upd_ne h] at e ⊢
      exact R.f a u e
  · exact (upd_ne (ne_of_none e bn)).trans (R.bf a u e)
  · obtain ⟨a, v, e1, e2, e3, e4, e5⟩ := R.cell n u e
    have ne : a ≠ q := ne_of_none e4 hp
    exact ⟨a, v, e1, e2, (upd_ne ne).trans e3, (upd_ne ne).trans e4, e5⟩
  · obtain ⟨u, hu, hn⟩ := R.ran n a e
    exact ⟨u, (upd_ne (ne_of_none hu hp)).trans hu, hn⟩
  · obtain ⟨u, hu, _⟩ := R.ran n a e
    exact (upd_ne (ne_of_none hu hp)).trans (R.rf n a e)
theorem Rl.fPut {o : HO} (R : Rl K wd (upd F q o) cs H) (ys : List V) : Rl K wd (upd F q (.lst ys)) cs (upd H q (.lst ys)) := by
  have fq : upd F q o q = some o := upd_same
  have fe : ∀ a u, upd F q (.lst ys) a = some u → ∃ xs, u = HO.lst xs := fun a u e => by
    by_cases h : a = q
    · subst h
      rw [upd_same] at e
      exact ⟨ys, (Option.some.inj e).symm⟩
    · rw [upd_ne h] at e
      exact R.fe a u ((upd_ne h).trans e)
  have bn : wd.B q = none := by
    cases e : wd.B q with
    | none => rfl
    | some u =>
      have := R.bf q u e
      rw [fq] at this
      cases this
  refine ⟨fun a u e => ?_, fun a u e => ?_, fun a u e => ?_, R.inj, fun n u e => ?_, fun n a e => ?_, R.top, fun n a e => ?_, fe, fun p hp => ?_, R.bt⟩
  · exact (upd_ne (ne_of_none e bn)).trans (R.b a u e)
  · by_cases h : a = q
    · subst h
      rw [upd_same] at e ⊢
      exact e
    · rw [upd_ne h] at e ⊢
      exact R.f a u ((upd_ne h).trans e)
  · have h : a ≠ q := ne_of_none e bn
    exact (upd_ne h).trans ((upd_ne h).symm.trans (R.bf a u e))
  · obtain ⟨a, v, e1, e2, e3, e4, e5⟩ := R.cell n u e
    have ne : a ≠ q := fun z => by
      subst z
      rw [fq] at e3
      cases e3
    exact ⟨a, v, e1, e2, (upd_ne ne).trans ((upd_ne ne).symm.trans e3), (upd_ne ne).trans e4, e5⟩
  · obtain ⟨u, hu, hn⟩ := R.ran n a e
    by_cases h : a = q
    · subst h
      exact ⟨_, upd_same, fun z y => by cases y⟩
    · exact ⟨u, (upd_ne h).trans hu, hn⟩
  · have ne : a ≠ q := fun z => by
      subst z
      have := R.rf n _ e
      rw [fq] at this
      cases this
    exact (upd_ne ne).trans ((upd_ne ne).symm.trans (R.rf n a e))
  · obtain ⟨ps, h1, h2, h3⟩ := R.tab p hp
    obtain ⟨xs, ex⟩ := R.fe q o fq
    have ne : q ≠ p.1 := R.notbl h1 (R.f q o fq) (by rw [ex]; intro z y; cases y)
    exact ⟨ps, (upd_ne (Ne.symm ne)).trans h1, h2, h3⟩
theorem Rl.fTree {ds : List D} {vs : List V} (R : Rl K wd (upd F q (.lst vs)) cs H) (fn : F q = none) (r : RpL K wd ds vs) : ∃ wd', wd.le wd' ∧ Rl K wd' F cs H ∧ Rp K wd' (.lst ds) (.ref q) := by
  have fq : upd F q (.lst vs) q = some (.lst vs) := upd_same
  have hq : H q = some (.lst vs) := R.f q _ fq
  have bn : wd.B q = none := by
    cases e : wd.B q with
    | none => rfl
    | some u =>
      have := R.bf q u e
      rw [fq] at this
      cases this
  have le : wd.le ⟨upd wd.B q (.lst vs), wd.r, wd.k⟩ := ⟨Ex.new bn, fun _ _ h => h⟩
  refine ⟨_, le, ⟨fun a u e => ?_, fun a u e => ?_, fun a u e => ?_, R.inj, fun n u e => ?_, R.ran, R.top, fun n a e => ?_, fe_back R.fe fn, fun p hp => let ⟨ps, h1, h2, h3⟩ := R.tab p hp; ⟨ps, h1, h2, fun pos cv e => let ⟨c, e1, e2⟩ := h3 pos cv e; ⟨c, e1, le.B _ _ e2⟩⟩, R.btNew (fun q z => by cases z)⟩, q, vs, rfl, upd_same, RpL.mono le _ _ r⟩
  · have e : upd wd.B q (.lst vs) a = some u := e
    by_cases h : a = q
    · subst h
      rw [upd_same] at e
      rw [← e]
      exact hq
    · rw [upd_ne h] at e
      exact R.b a u e
  · have h : a ≠ q := ne_of_none e fn
    exact R.f a u ((upd_ne h).trans e)
  · have e : upd wd.B q (.lst vs) a = some u := e
    by_cases h : a = q
    · subst h
      exact fn
    · rw [upd_ne h] at e
      exact (upd_ne h).symm.trans (R.bf a u e)
  · obtain ⟨a, v, e1, e2, e3, e4, e5⟩ := R.cell n u e
    have ne : a ≠ q := fun z => by
      subst z
      rw [fq] at e3
      cases e3
    exact ⟨a, v, e1, (upd_ne ne).trans e2, (upd_ne ne).symm.trans e3, e4, e5.mono le⟩
  · by_cases h : a = q
    · rw [h]
      exact fn
    · exact (upd_ne h).symm.trans (R.rf n a e)
theorem Rl.fCell {ds : List D} {vs : List V} (R : Rl K wd (upd F q (.lst vs)) cs H) (fn : F q = none) (r : RpL K wd ds vs) : ∃ n wd', cs n = none ∧ wd.le wd' ∧ Rl K wd' F (put cs n (.lst ds)) H ∧ Rp K wd' (.ref n) (.ref q) := by
  have fq : upd F q (.lst vs) q = some (.lst vs) := upd_same
  have hq : H q = some (.lst vs) := R.f q _ fq
  have bn : wd.B q = none := by
    cases e : wd.B q with
    | none => rfl
    | some u =>
      have := R.bf q u e
      rw [fq] at this
      cases this
  have nr : ∀ n, wd.r n ≠ some q := fun n z => by
    have := R.rf n q z
    rw [fq] at this
    cases this
  have rk : wd.r wd.k = none := R.top wd.k (Nat.le_refl _)
  have le : wd.le ⟨wd.B, fun m => if m = wd.k then some q else wd.r m, wd.k + 1⟩ := ⟨Ex.refl _, fun m b e => by
    show (if m = wd.k then some q else wd.r m) = some b
    by_cases hm : m = wd.k
    · rw [hm, rk] at e
      cases e
    · rw [if_neg hm]
      exact e⟩
  have ck : cs wd.k = none := by
    cases z : cs wd.k with
    | none => rfl
    | some o =>
      obtain ⟨a, v, e1, _⟩ := R.cell _ _ z
      rw [rk] at e1
      cases e1
  refine ⟨wd.k, _, ck, le, ⟨R.b, fun a u e => R.f a u ((upd_ne (ne_of_none e fn)).trans e), fun a u e => ?_, fun n m a e1 e2 => ?_, fun m w e => ?_, fun m b e => ?_, fun m hm => ?_, fun m b e => ?_, fe_back R.fe fn, R.tab, R.bt⟩, q, if_pos rfl, rfl⟩
  · have h : a ≠ q := ne_of_none e bn
    exact (upd_ne h).symm.trans (R.bf a u e)
  · have e1 : (if n = wd.k then some q else wd.r n) = some a := e1
    have e2 : (if m = wd.k then some q else wd.r m) = some a := e2
    by_cases hn : n = wd.k
    · by_cases hm : m = wd.k
      · rw [hn, hm]
      · rw [if_pos hn] at e1
        rw [if_neg hm] at e2
        cases e1
        exact absurd e2 (nr m)
    · by_cases hm : m = wd.k
      · rw [if_pos hm] at e2
        rw [if_neg hn] at e1
        cases e2
        exact absurd e1 (nr n)
      · rw [if_neg hn] at e1
        rw [if_neg hm] at e2
        exact R.inj n m a e1 e2
  · by_cases hm : m = wd.k
    · subst hm
      have ew : Ob.lst ds = w := by
        unfold put at e
        rw [if_pos rfl] at e
        exact Option.some.inj e
      subst ew
      exact ⟨q, .lst vs, if_pos rfl, bn, fn, hq, vs, rfl, RpL.mono le _ _ r⟩
    · unfold put at e
      rw [if_neg hm] at e
      obtain ⟨b, x, f1, f2, f3, f4, f5⟩ := R.cell m w e
      have ne : b ≠ q := fun z => nr m (by rw [← z]; exact f1)
      exact ⟨b, x, (if_neg hm).trans f1, f2, (upd_ne ne).symm.trans f3, f4, f5.mono le⟩
  · have e : (if m = wd.k then some q else wd.r m) = some b := e
    by_cases hm : m = wd.k
    · rw [if_pos hm] at e
      cases e
      exact ⟨_, hq, fun z y => by cases y⟩
    · rw [if_neg hm] at e
      exact R.ran m b e
  · have hm : wd.k + 1 ≤ m := hm
    show (if m = wd.k then some q else wd.r m) = none
    rw [if_neg (by omega)]
    exact R.top m (by omega)
  · have e : (if m = wd.k then some q else wd.r m) = some b := e
    by_cases hm : m = wd.k
    · rw [if_pos hm] at e
      cases e
      exact fn
    · rw [if_neg hm] at e
      have ne : b ≠ q := fun z => nr m (by rw [← z]; exact e)
      exact (upd_ne ne).symm.trans (R.rf m b e)
end
theorem wipeG_some {τ : Sl} : ∀ {own : List Nat} {i : Nat} {d : D}, getV (wipe τ own) i = some d → getV τ i = some d ∧ i ∉ own
  | [], i, d, h => ⟨h, by simp⟩
  | j :: own, i, d, h => by
    have h : getV ((wipe τ own).set j none) i = some d := h
    rw [getV_eq] at h
    by_cases e : i = j
    · subst e
      by_cases hl : i < (wipe τ own).length
      · rw [List.getElem?_set_self hl] at h
        cases h
      · rw [List.getElem?_eq_none (by simp; omega)] at h
        cases h
    · rw [List.getElem?_set_ne (Ne.symm e), ← getV_eq] at h
      obtain ⟨h1, h2⟩ := wipeG_some h
      exact ⟨h1, by simp [e, h2]⟩
theorem wipeG_len (τ : Sl) : ∀ own : List Nat, (wipe τ own).length = τ.length
  | [] => rfl
  | j :: own => by
    show ((wipe τ own).set j none).length = _
    rw [List.length_set, wipeG_len τ own]
theorem RS.wipe {K : PySem.W.Frag} {wd : Wd} {τ : Sl} {σ : St} (h : RS K wd τ σ) (own : List Nat) : RS K wd (G.wipe τ own) (L2.wipe σ own) := by
  refine ⟨by rw [wipeG_len, L2.wipe_length]; exact h.len, fun i d e => ?_⟩
  obtain ⟨e1, e2⟩ := wipeG_some e
  obtain ⟨v, hv, r⟩ := h.at_ i d e1
  exact ⟨v, by rw [L2.wipe_out e2]; exact hv, r⟩
theorem wipe_idem (σ : St) (own : List Nat) : L2.wipe (L2.wipe σ own) own = L2.wipe σ own := by
  apply List.ext_getElem?
  intro k
  by_cases hk : k ∈ own
  · rw [wipe_in hk, wipe_in hk, L2.wipe_length]
  · rw [L2.wipe_out hk]
def W0 : WX := fun _ _ _ _ => False
def JTs (X : Cx) (W : WX) (ifs : List Expr) (c : E) : Prop := ∃ tt, PTs X ifs tt ∧ RefT X W tt c
section
variable {X : Cx} {W : WX} {pos : Pos} {a b c e : Expr} {ca cb cc ce : E} {p : Pos}
theorem jts_nil : JTs X W [] (.c (.bl true)) := ⟨_, pts_nil, fun wd F τ cs σ H P PX Q R rs h q x => by
  obtain ⟨k, e, hq⟩ := q wd (.bl true) cs H (Wd.le.refl _) R h
  cases e
  exact hq⟩
theorem jts_one (h : JT X W c cc) : JTs X W [c] cc := by
  obtain ⟨tt, p1, r1⟩ := h
  exact ⟨tt, pts_one p1, r1⟩
abbrev Cx.bk (X : Cx) (scope : Scope) (s : Shared) (H : Hp) (C : Addr) (cl : List (Str × Addr)) (fp : List Addr) : Cx := X.blk s H scope (compEnvC scope cl C X.env) fp
theorem comp_core (m : Bool) {elt tg iter : Expr} {ifs : List Expr} {scope : Scope} {own : List (Str × Nat)} {isp : ISpec} {as : Es} {pt : Pat} (hc : X.calm = true) (hN : X.N.Nodup) (hi : JI X W tg iter isp as) (ok : BlkOk X.N X.env.scope scope own)
    (hg : ∀ (s : Shared) (H : Hp) (C : Addr) (cl : List (Str × Addr)) (fp : List Addr), JG (X.blk s H scope (compEnvC scope cl C X.env) fp) tg pt (own.map (·.2)))
    (ht : ∀ (s : Shared) (H : Hp) (C : Addr) (cl : List (Str × Addr)) (fp : List Addr), JTs (X.blk s H scope (compEnvC scope cl C X.env) fp) W0 ifs cc)
    (he : ∀ (s : Shared) (H : Hp) (C : Addr) (cl : List (Str × Addr)) (fp : List Addr), JE (X.blk s H scope (compEnvC scope cl C X.env) fp) W0 elt ce) (hs : ∀ x, foldedSetIterable iter X.env x = pure x := by intro _; rfl) :
    ∃ te, PE X (.ListComp elt [⟨tg, iter, ifs, 0⟩] scope pos) te ∧ RefE X W te (.comp m (own.map (·.2)) pt isp as cc ce) ∧
      ∀ (i : Nat) (y : Str) (py spos : Pos), X.N[i]? = some y → X.env.scope.names.lookup y = some .local → swapsWith (.ListComp elt [⟨tg, iter, ifs, 0⟩] scope pos) (some (.Name y py)) spos.line X.env = pure true →
        PS X (.Assign [.Name y py] (.ListComp elt [⟨tg, iter, ifs, 0⟩] scope pos) spos) (tAsg te (gName i)) := by
  obtain ⟨wi, p0, r0⟩ := hi
  let uG : TG := fun v σ H Q => ∀ (s : Shared) (H0 : Hp) (C : Addr) (cl : List (Str × Addr)) (fp : List Addr) (g : TG), PG (X.blk s H0 scope (compEnvC scope cl C X.env) fp) tg g → RefG (X.blk s H0 scope (compEnvC scope cl C X.env) fp) g pt (own.map (·.2)) → g v σ H Q
  let uT : TT := fun σ H Q => ∀ (s : Shared) (H0 : Hp) (C : Addr) (cl : List (Str × Addr)) (fp : List Addr) (t : TT), PTs (X.blk s H0 scope (compEnvC scope cl C X.env) fp) ifs t → RefT (X.blk s H0 scope (compEnvC scope cl C X.env) fp) W0 t cc → t σ H Q
  let uE : TE := fun σ H Q => ∀ (s : Shared) (H0 : Hp) (C : Addr) (cl : List (Str × Addr)) (fp : List Addr) (t : TE), PE (X.blk s H0 scope (compEnvC scope cl C X.env) fp) elt t → RefE (X.blk s H0 scope (compEnvC scope cl C X.env) fp) W0 t ce → t σ H Q
  have pG : ∀ (s : Shared) (H : Hp) (C : Addr) (cl : List (Str × Addr)) (fp : List Addr), PG (X.blk s H scope (compEnvC scope cl C X.env) fp) tg uG := fun s H0 C cl fp => by
    obtain ⟨g, p1, r1⟩ := hg s H0 C cl fp
    exact ⟨fun pins s' σ H v u Q I rv h => p1.run pins s' σ H v u Q I rv (h s H0 C cl fp g p1 r1)⟩
  have pT : ∀ (s : Shared) (H : Hp) (C : Addr) (cl : List (Str × Addr)) (fp : List Addr), PTs (X.blk s H scope (compEnvC scope cl C X.env) fp) ifs uT := fun s H0 C cl fp => by
    obtain ⟨g, p1, r1⟩ := ht s H0 C cl fp
    exact ⟨fun pins s' σ H Q I h => p1.run pins s' σ H Q I (h s H0 C cl fp g p1 r1)⟩
  have pE : ∀ (s : Shared) (H : Hp) (C : Addr) (cl : List (Str × Addr)) (fp : List Addr), PE (X.blk s H scope (compEnvC scope cl C X.env) fp) elt uE := fun s H0 C cl fp => by
    obtain ⟨g, p1, r1⟩ := he s H0 C cl fp
    exact ⟨fun pins s' σ H Q I h => p1.run pins s' σ H Q I (h s H0 C cl fp g p1 r1)⟩
  refine ⟨_, pe_lc hc hN p0 ok pG pT pE hs, fun wd F τ cs σ H P PX Q R rs h q x => ?_, fun i y py spos hy hyl hsw => ps_setLc hc hN hy hyl hsw p0 ok pG pT pE hs⟩
  have h : wpEs as τ cs (fun ds c1 => isp ds c1 fun items grd =>
      compL pt grd (G.wipe τ (own.map (·.2))) (fun σ1 c2 K => wpE cc σ1 c2 K (fun _ _ => False)) (fun σ1 c2 K => wpE ce σ1 c2 K (fun _ _ => False))
        (fun ys c3 => if m = true then ∀ n, c3 n = none → P (.ref n) (put c3 n (.lst ys)) else P (.lst ys) c3) items [] c1) PX := h
  refine r0 wd F τ cs σ H (fun items grd c1 => compL pt grd (G.wipe τ (own.map (·.2))) (fun σ1 c2 K => wpE cc σ1 c2 K (fun _ _ => False)) (fun σ1 c2 K => wpE ce σ1 c2 K (fun _ _ => False))
        (fun ys c3 => if m = true then ∀ n, c3 n = none → P (.ref n) (put c3 n (.lst ys)) else P (.lst ys) c3) items [] c1) PX _ R rs h (fun wd1 items grd c1 J H1 l1 R1 it h1 => ?_) x
  intro Dd hD
  have fn : F Dd = none := Evl.fresh_back R1.f hD
  refine ⟨fun i mm H' => ∃ wd' cs' acc vs, wd1.le wd' ∧ Rl X.K wd' (upd F Dd (.lst vs)) cs' H' ∧ RpL X.K wd' acc vs ∧ mm = items.length - i ∧ i ≤ items.length ∧
    compL pt grd (G.wipe τ (own.map (·.2))) (fun σ1 c2 K => wpE cc σ1 c2 K (fun _ _ => False)) (fun σ1 c2 K => wpE ce σ1 c2 K (fun _ _ => False))
        (fun ys c3 => if m = true then ∀ n, c3 n = none → P (.ref n) (put c3 n (.lst ys)) else P (.lst ys) c3) (items.drop i) acc cs', ⟨items.length, wd1, c1, [], [], Wd.le.refl _, R1.fNew hD _, rfl, by simp, Nat.zero_le _, h1⟩, ?_⟩
  rintro i mm H' ⟨wd', cs', acc, vs, l', R', ra, em, hle, h'⟩
  by_cases hi : i < items.length
  · have ed : items.drop i = items[i] :: items.drop (i + 1) := List.drop_eq_getElem_cons hi
    rw [ed] at h'
    obtain ⟨hgd, h'⟩ := h'
    obtain ⟨g0, gy⟩ := it.go wd' _ cs' H' i items[i] l' R' hgd (List.getElem?_eq_getElem hi)
    cases eb : bindP pt [items[i]] (G.wipe τ (own.map (·.2))) with
    | none => rw [eb] at h'; exact h'.elim
    | some τ1 =>
      rw [eb] at h'
      refine .inr ⟨g0, fun H2 => ∃ wd' cs' acc vs, wd1.le wd' ∧ Rl X.K wd' (upd F Dd (.lst vs)) cs' H2 ∧ RpL X.K wd' acc vs ∧
        compL pt grd (G.wipe τ (own.map (·.2))) (fun σ1 c2 K => wpE cc σ1 c2 K (fun _ _ => False)) (fun σ1 c2 K => wpE ce σ1 c2 K (fun _ _ => False))
          (fun ys c3 => if m = true then ∀ n, c3 n = none → P (.ref n) (put c3 n (.lst ys)) else P (.lst ys) c3) (items.drop (i + 1)) acc cs', fun H2 ⟨wd2, c2, acc2, vs2, l2, R2, ra2, h2⟩ => ⟨items.length - (i + 1), by omega, wd2, c2, acc2, vs2, l2, R2, ra2, rfl, hi, h2⟩, fun xv H2 y => ?_⟩
      obtain ⟨wd2, l2, R2, rv⟩ := gy xv H2 y
      have rsw : RS X.K wd2 (G.wipe τ (own.map (·.2))) (L2.wipe σ (own.map (·.2))) := ((rs.mono (l1.trans (l'.trans l2))).wipe _)
      intro s0 H0 C cl fp g p1 r1
      refine r1 wd2 _ _ cs' _ H2 items[i] xv τ1 _ R2 rsw rv eb fun σ3 rs3 w3 => ?_
      refine ⟨by rw [w3, wipe_idem], ?_⟩
      intro s0 H0 C cl fp t p2 r2
      have xz : ∀ {wd F σ}, XOk X W0 wd F σ (fun _ _ => False) := fun {wd F σ} _ _ _ _ _ _ _ _ _ z => z
      refine r2 wd2 _ τ1 cs' σ3 H2 _ (fun _ _ => False) _ R2 rs3 h' (fun wd3 d3 c3 H3 l3 R3 h3 => ?_) xz
      rcases h3 with ⟨e3, h3⟩ | ⟨e3, h3⟩
      · refine ⟨true, e3, ?_⟩
        rw [if_pos rfl]
        intro s0 H0 C cl fp t p4 r4
        refine r4 wd3 _ τ1 c3 σ3 H3 _ (fun _ _ => False) _ R3 (rs3.mono l3) h3 (fun wd4 d4 c4 v4 H4 l4 R4 rv4 h4 => ?_) xz
        have hf : H4 Dd = some (.lst vs) := R4.f Dd _ upd_same
        have ra4 := RpL.mono (l2.trans (l3.trans l4)) _ _ ra
        refine ⟨vs, hf, by rw [ra.length, sizeL]; exact h4.1, wd4, c4, acc ++ [d4], vs ++ [v4], l'.trans (l2.trans (l3.trans l4)), ?_, ra4.append ⟨v4, [], rfl, rv4, rfl⟩, h4.2⟩
        exact R4.fPut (vs ++ [v4])
      · refine ⟨false, e3, ?_⟩
        rw [if_neg Bool.false_ne_true]
        exact ⟨wd3, c3, acc, vs, l'.trans (l2.trans l3), R3, RpL.mono (l2.trans l3) _ _ ra, h3⟩
  · have ei : i = items.length := by omega
    subst ei
    rw [List.drop_length] at h'
    refine .inl ⟨it.stop wd' _ cs' H' l' R' h'.1, ?_⟩
    have h2 := h'.2
    cases m with
    | true =>
      rw [if_pos rfl] at h2
      obtain ⟨n, wd2, hn, l2, R2, r2⟩ := R'.fCell fn ra
      exact q wd2 _ _ _ _ (l1.trans (l'.trans l2)) R2 r2 (h2 n hn)
    | false =>
      rw [if_neg Bool.false_ne_true] at h2
      obtain ⟨wd2, l2, R2, r2⟩ := R'.fTree fn ra
      exact q wd2 _ _ _ _ (l1.trans (l'.trans l2)) R2 r2 h2
theorem j_comp (m : Bool) {elt tg iter : Expr} {ifs : List Expr} {scope : Scope} {own : List (Str × Nat)} {isp : ISpec} {as : Es} {pt : Pat} (hc : X.calm = true) (hN : X.N.Nodup) (hi : JI X W tg iter isp as) (ok : BlkOk X.N X.env.scope scope own)
    (hg : ∀ (s : Shared) (H : Hp) (C : Addr) (cl : List (Str × Addr)) (fp : List Addr), JG (X.blk s H scope (compEnvC scope cl C X.env) fp) tg pt (own.map (·.2)))
    (ht : ∀ (s : Shared) (H : Hp) (C : Addr) (cl : List (Str × Addr)) (fp : List Addr), JTs (X.blk s H scope (compEnvC scope cl C X.env) fp) W0 ifs cc)
    (he : ∀ (s : Shared) (H : Hp) (C : Addr) (cl : List (Str × Addr)) (fp : List Addr), JE (X.blk s H scope (compEnvC scope cl C X.env) fp) W0 elt ce) (hs : ∀ x, foldedSetIterable iter X.env x = pure x := by intro _; rfl) :
    JE X W (.ListComp elt [⟨tg, iter, ifs, 0⟩] scope pos) (.comp m (own.map (·.2)) pt isp as cc ce) := by
  obtain ⟨te, p1, r1, _⟩ := comp_core (pos := pos) m hc hN hi ok hg ht he hs
  exact ⟨te, p1, r1⟩
theorem js_setc (i : Nat) (m : Bool) {y : Str} {py spos : Pos} {elt tg iter : Expr} {ifs : List Expr} {scope : Scope} {own : List (Str × Nat)} {isp : ISpec} {as : Es} {pt : Pat} (hc : X.calm = true) (hN : X.N.Nodup) (hy : X.N[i]? = some y) (hyl : X.env.scope.names.lookup y = some .local)
    (hsw : swapsWith (.ListComp elt [⟨tg, iter, ifs, 0⟩] scope pos) (some (.Name y py)) spos.line X.env = pure true) (hi : JI X W tg iter isp as) (ok : BlkOk X.N X.env.scope scope own)
    (hg : ∀ (s : Shared) (H : Hp) (C : Addr) (cl : List (Str × Addr)) (fp : List Addr), JG (X.blk s H scope (compEnvC scope cl C X.env) fp) tg pt (own.map (·.2)))
    (ht : ∀ (s : Shared) (H : Hp) (C : Addr) (cl : List (Str × Addr)) (fp : List Addr), JTs (X.blk s H scope (compEnvC scope cl C X.env) fp) W0 ifs cc)
    (he : ∀ (s : Shared) (H : Hp) (C : Addr) (cl : List (Str × Addr)) (fp : List Addr), JE (X.blk s H scope (compEnvC scope cl C X.env) fp) W0 elt ce) (hs : ∀ x, foldedSetIterable iter X.env x = pure x := by intro _; rfl) :
    JS X W (.Assign [.Name y py] (.ListComp elt [⟨tg, iter, ifs, 0⟩] scope pos) spos) (.asg (.nm i) (.comp m (own.map (·.2)) pt isp as cc ce)) := by
  obtain ⟨te, p1, r1, ps⟩ := comp_core (pos := pos) m hc hN hi ok hg ht he hs
  refine ⟨_, ps i y py spos hy hyl hsw, fun wd F τ cs σ H P Q R rs h q => ?_⟩
  exact r1 wd F τ cs σ H _ _ _ R rs h (fun wd1 d c1 v H1 l1 R1 rv h1 => q.nx wd1 _ c1 _ H1 l1 R1 ((rs.mono l1).set i rv) h1) (q.xok rs)
end
end G

/-! GFn: calls of defs; a def keeps its core promise. -/
namespace G
open PySem PySem.Spec L2
open Evl (Ex)
def lift (K : PySem.W.Frag) (mg : Str → Option Value) (sp : Spec) : Sp := fun vs H Q E => ∃ wd F cs ds P PX, Rl K wd F cs H ∧ RpL K wd ds vs ∧ sp ds cs P PX ∧ QOk K wd F P Q ∧
  ∀ wd' x cs' cls dd H', wd.le wd' → Rl K wd' F cs' H' → RpX K mg wd' x cls dd → PX x cs' → E cls dd H'
/-- a def by its name: level, number of parameters, promise -/
structure Fn (P : Program) (w : World) (K : PySem.W.Frag) (mg : Str → Option Value) (base : Heap) (x : Str) (k n : Nat) (sp : Spec) : Prop where
  ex : ∃ f fd ps, ps.length = n ∧ mg x = some (.ref f) ∧ FnOk P w K mg base (L2N.CX P w) k f fd ps (lift K mg sp) ∧ PySem.W.keepIn K (.ref f) = true ∧ Binds K fd ps []
theorem Fn.mono {P : Program} {w : World} {K : PySem.W.Frag} {mg : Str → Option Value} {base : Heap} {x : Str} {k j n : Nat} {sp : Spec} (F : Fn P w K mg base x k n sp) (h : k ≤ j) : Fn P w K mg base x j n sp := by
  obtain ⟨f, fd, ps, e, hm, ok, kp, b⟩ := F.ex
  exact ⟨f, fd, ps, e, hm, ok.mono h, kp, b⟩
theorem Fn.imp {P : Program} {w : World} {K : PySem.W.Frag} {mg : Str → Option Value} {base : Heap} {x : Str} {k n : Nat} {sp sp' : Spec} (F : Fn P w K mg base x k n sp) (h : ∀ ds cs Q X, sp' ds cs Q X → sp ds cs Q X) : Fn P w K mg base x k n sp' := by
  obtain ⟨f, fd, ps, e, hm, ok, kp, b⟩ := F.ex
  exact ⟨f, fd, ps, e, hm, ok.imp fun vs H Q E ⟨wd, F, cs, ds, P, PX, R, r, s, q⟩ => ⟨wd, F, cs, ds, P, PX, R, r, h _ _ _ _ s, q⟩, kp, b⟩
section
variable {X : Cx} {W : WX} {pos p : Pos} {e : Expr} {es : List Expr} {ces : Es} {sp : Spec} {x : Str} {k n : Nat}
theorem j_call (F : Fn X.prog X.w X.K X.mg X.base x k n sp) (hr : Room k X.A) (tk : L2N.Takes X W) (hg : Gl X x) (ha : JA X W (e :: es) ces) (hdb : (x == ("__debug__" : Str)) = false := by decide)
    (he : starEach (e :: es) X.env = (false, eval e X.env) :: starEach es X.env := by rfl) (hpl : (backTo pos (starEach es X.env)).any (·.1) = false := by rfl) : JE X W (.Call (.Name x p) (e :: es) [] pos) (.app sp ces) := by
  obtain ⟨f, fd, ps, en, hm, ok, kp, b⟩ := F.ex
  obtain ⟨ta, p1, r1⟩ := ha
  refine ⟨_, pe_callSD ok hr hg hm kp b .nil (fun σ => L2N.passAt tk σ) p1 hdb he hpl, fun wd F τ cs σ H P PX Q R rs h q x => ?_⟩
  refine r1 wd F τ cs σ H _ PX _ R rs h (fun wd1 ds c1 vs H1 l1 R1 rv h1 => ?_) x
  rw [List.append_nil]
  exact ⟨wd1, F, c1, ds, P, PX, R1, rv, h1, q.mono l1, fun wd' y cs' cls dd H' l R' rx z => x wd' y cs' cls dd H' (l1.trans l) R' rx z⟩
end
theorem rs_start {K : PySem.W.Frag} {wd : Wd} {N : List Str} {ds : List D} {vs : List V} (r : RpL K wd ds vs) : RS K wd (G.start N.length ds) (L2.start N vs) := by
  have hl := r.length
  refine ⟨by simp [G.start, L2.start, hl], fun i d e => ?_⟩
  rw [getV_eq] at e
  unfold G.start at e
  unfold L2.start
  by_cases hi : i < ds.length
  · rw [List.getElem?_append_left (by simpa using hi), List.getElem?_map] at e
    cases ed : ds[i]? with
    | none =>
      rw [ed] at e
      cases e
    | some d' =>
      rw [ed] at e
      have : d' = d := Option.some.inj e
      subst this
      obtain ⟨v, h1, h2⟩ := r.get ed
      exact ⟨v, by rw [List.getElem?_append_left (by rw [List.length_map]; omega), List.getElem?_map, h1]; rfl, h2⟩
  · rw [List.getElem?_append_right (by simpa using Nat.le_of_not_lt hi), List.getElem?_replicate] at e
    split at e <;> cases e
section
variable {P : Program} {w : World} {K : PySem.W.Frag} {mg : Str → Option Value} {base : Heap}
/-- what the terms of a body want of its context -/
structure Ct (X : Cx) (W : WX) (k : Nat) : Prop where
  hc : X.calm = true
  hN : X.N.Nodup
  hp : PassesOwn (model X.prog X.w) X.A X.env X.xe
  tk : L2N.Takes X W
  hr : Room k X.A
theorem Ct.hu {X : Cx} {W : WX} {k : Nat} (c : Ct X W k) : X.A.units + 64 < cLine := by have := c.hr.un; omega
abbrev wxOf (E : XK) : WX := fun cls d _ H => E cls d H
theorem fnOk_of {x qual : Str} {params : Arguments} {body : List Stmt} {scope : Scope} {dvs : List V} {kws : List (Str × V)} {f : Addr} {fd : FuncData} {N ps : List Str} {k : Nat} {sp : Spec} {core : S} (FD : FunD K x qual params body scope dvs kws f fd) (S : FnScope N ps scope)
    (len : ∀ ds cs Q PX, sp ds cs Q PX → ds.length = ps.length)
    (hb : ∀ (cdv : Value) (A : Around) (outer : List Env) (s : Shared) (H : Hp) (E : XK), Ct (cxOf (L2N.CX P w) P w K mg base N qual scope f cdv A outer s H E) (wxOf E) k → JSs (cxOf (L2N.CX P w) P w K mg base N qual scope f cdv A outer s H E) (wxOf E) body core)
    (ok : okFn N.length core sp) : FnOk P w K mg base (L2N.CX P w) (k + 1) f fd ps (lift K mg sp) := by
  refine FD.ok S (fun vs H Q E h => ?_) fun cdv A outer s H vs Q E hr h => ?_
  · obtain ⟨wd, F, cs, ds, PD, PX, R, r, s, q⟩ := h
    rw [r.length]
    exact len _ _ _ _ s
  · obtain ⟨wd, F, cs, ds, PD, PX, R, r, hs, q, x⟩ := h
    obtain ⟨t, p1, r1⟩ := hb cdv A outer s H E ⟨rfl, S.nd, passes_of rfl, L2N.takes_of rfl rfl rfl rfl, hr⟩
    refine ⟨t, p1, ?_⟩
    refine r1 wd F _ cs _ H _ _ R (rs_start r) (ok ds cs PD PX hs) ⟨fun wd' τ cs' σ H' l R' rs' h' => q wd' .non cs' .non H' l R' rfl h', fun _ _ _ _ _ _ _ _ z => z.elim, fun _ _ _ _ _ _ _ _ z => z.elim, q, fun wd' y τ cs' σ cls dd H' l R' rs' rx z => x wd' y cs' cls dd H' l R' rx z⟩
end
end G

/-! GMeth: methods of lists, places stored. -/
namespace G
open PySem PySem.Spec L2
open Evl (Ex)
def RefM (K : PySem.W.Frag) (r : V → List V → Hp → VK → Prop) (sp : Spec) : Prop := ∀ wd F cs H d ds v vs (P : KD) (PX : KX) (Q : VK), Rl K wd F cs H → Rp K wd d v → RpL K wd ds vs → sp (d :: ds) cs P PX → QOk K wd F P Q → r v vs H Q
section
variable {X : Cx} {W : WX} {pos apos : Pos} {o e : Expr} {es : List Expr} {co ce : E} {ces : Es} {sp : Spec}
theorem j_methL {r : V → List V → Hp → VK → Prop} {id : String} {name : Str} (slot : Slot "list" name id) (hty : typeOf (.builtin id) = pure (.type "method_descriptor")) (hm : MtR X id r) (hr : RefM X.K r sp) (ho : JE X W o co) (ha : JA X W (e :: es) ces)
    (hbase : attributeBase o name X.env (eval o X.env) = eval o X.env := by rfl)
    (hfew : ((backTo pos (starEach (e :: es) X.env)).all (fun x => !x.1) && (backToKw pos (keywordEach [] X.env)).all (fun x => x.1.isSome)
      && decide ((e :: es).length + ([] : List Keyword).length + (if ([] : List Keyword).isEmpty then 0 else 1) < 30)) = true := by rfl)
    (hline : (apos.endLine == pos.line) = true := by rfl) (hs : starEach (e :: es) X.env = (false, eval e X.env) :: starEach es X.env := by rfl) (hplain : (backTo pos (starEach es X.env)).any (·.1) = false := by rfl) :
    JE X W (.Call (.Attribute o name apos) (e :: es) [] pos) (.meth chkL sp co ces) := by
  obtain ⟨to, p1, r1⟩ := ho
  obtain ⟨ta, p2, r2⟩ := ha
  refine ⟨_, pe_bm PySem.F.plainAttrs_list slot hty hm p1 p2 hbase hfew hline hs hplain, fun wd F τ cs σ H P PX Q R rs h q x => ?_⟩
  refine r1 wd F τ cs σ H _ PX _ R rs h (fun wd1 d c1 v H1 l1 R1 rv h1 => ?_) x
  obtain ⟨hk, h1⟩ := h1
  cases ex : getL d c1 with
  | none =>
    unfold chkL at hk
    rw [ex] at hk
    exact hk.elim
  | some xs =>
    obtain ⟨a, ws, e2, s, r3⟩ := R1.getL rv ex
    subst e2
    refine ⟨Or.inl ⟨rfl, ws, SqL.of s⟩, ?_⟩
    · refine r2 wd1 F τ c1 σ H1 _ PX _ R1 (rs.mono l1) h1 (fun wd2 ds c2 vs H2 l2 R2 rvs h2 => ?_) (x.mono l1)
      exact hr wd2 F c2 H2 d ds _ vs P PX Q R2 (rv.mono l2) rvs h2 (q.mono (l1.trans l2))
/-- a cell's list, to be written -/
theorem Rl.cellAt {K : PySem.W.Frag} {wd : Wd} {F H : Hp} {cs : Cs} (R : Rl K wd F cs H) {n : Nat} {v : V} {xs : List D} (r : Rp K wd (.ref n) v) (h : cs n = some (.lst xs)) :
    ∃ a vs, v = .ref a ∧ H a = some (.lst vs) ∧ RpL K wd xs vs ∧ ∀ ys ws, RpL K wd ys ws → Rl K wd F (put cs n (.lst ys)) (upd H a (.lst ws)) := by
  obtain ⟨a, ea, ev⟩ := id r
  obtain ⟨a', u, f1, f2, f3, f4, ws, f5, f6⟩ := R.cell n _ h
  have : a' = a := Option.some.inj (f1.symm.trans ea)
  subst this f5
  exact ⟨a', ws, ev, f4, f6, fun ys zs q => R.write ⟨_, h⟩ f1 ⟨zs, rfl, q⟩⟩
theorem sAppend_inv {ds : List D} {cs : Cs} {Q : KD} {PX : KX} {d : D} (h : sAppend (d :: ds) cs Q PX) : ∃ n y xs, d = .ref n ∧ ds = [y] ∧ cs n = some (.lst xs) ∧ xs.length < lim ∧ Q .non (put cs n (.lst (xs ++ [y]))) := by
  unfold sAppend at h
  split at h
  · rename_i n y e
    cases e
    split at h
    · rename_i xs ec
      exact ⟨n, y, xs, rfl, rfl, ec, h.1, h.2⟩
    · exact h.elim
  · exact h.elim
theorem refm_append : RefM X.K rAppend sAppend := by
  intro wd F cs H d ds v vs P PX Q R rv rvs h q
  obtain ⟨n, y, xs, e1, e2, ec, hl, hP⟩ := sAppend_inv h
  subst e1 e2
  obtain ⟨a, ws, ea, hH, rw', put'⟩ := R.cellAt rv ec
  obtain ⟨w, ew, rw2⟩ := rvs.one
  exact ⟨a, ws, w, ea, ew, hH, by rw [rw'.length, sizeL]; exact hl, q wd .non _ _ _ (Wd.le.refl _) (put' _ _ (rw'.append (es := [y]) (ws := [w]) ⟨w, [], rfl, rw2, rfl⟩)) rfl hP⟩
theorem sInsert_inv {ds : List D} {cs : Cs} {Q : KD} {PX : KX} {d : D} (h : sInsert (d :: ds) cs Q PX) : ∃ n i y xs, d = .ref n ∧ ds = [.int i, y] ∧ cs n = some (.lst xs) ∧ xs.length < lim ∧ 0 ≤ i ∧ i < 2 ^ 63 ∧ Q .non (put cs n (.lst (xs.take i.toNat ++ [y] ++ xs.drop i.toNat))) := by
  unfold sInsert at h
  split at h
  · rename_i n i y e
    cases e
    split at h
    · rename_i xs ec
      exact ⟨n, i, y, xs, rfl, rfl, ec, h.1, h.2.1, h.2.2.1, h.2.2.2⟩
    · exact h.elim
  · exact h.elim
theorem refm_insert : RefM X.K (fun x vs H Q => ∃ (l : Addr) (xs : List V) (i : Int) (y : V), x = .ref l ∧ vs = [.int i, y] ∧ H l = some (.lst xs) ∧ xs.length < sizeLine ∧ 0 ≤ i ∧ i < 2 ^ 63 ∧
    Q .non (upd H l (.lst (xs.take i.toNat ++ [y] ++ xs.drop i.toNat)))) sInsert := by
  intro wd F cs H d ds v vs P PX Q R rv rvs h q
  obtain ⟨n, i, y, xs, e1, e2, ec, hl, h0, h1, hP⟩ := sInsert_inv h
  subst e1 e2
  obtain ⟨a, ws, ea, hH, rw', put'⟩ := R.cellAt rv ec
  obtain ⟨u, w, ew, ru, rw2⟩ := rvs.two
  refine ⟨a, ws, i, w, ea, by rw [ew, show u = _ from ru], hH, by rw [rw'.length, sizeL]; exact hl, h0, h1, q wd .non _ _ _ (Wd.le.refl _) (put' _ _ ?_) rfl hP⟩
  exact ((rw'.take _).append (es := [y]) (ws := [w]) ⟨w, [], rfl, rw2, rfl⟩).append (rw'.drop _)
theorem j_append (ho : JE X W o co) (ha : JE X W e ce) (hs : starEach [e] X.env = (false, eval e X.env) :: starEach [] X.env := by rfl) (hbase : attributeBase o "append" X.env (eval o X.env) = eval o X.env := by rfl)
    (hfew : ((backTo pos (starEach [e] X.env)).all (fun x => !x.1) && (backToKw pos (keywordEach [] X.env)).all (fun x => x.1.isSome)
      && decide ([e].length + ([] : List Keyword).length + (if ([] : List Keyword).isEmpty then 0 else 1) < 30)) = true := by rfl)
    (hline : (apos.endLine == pos.line) = true := by rfl) : JE X W (.Call (.Attribute o "append" apos) [e] [] pos) (.meth chkL sAppend co (.cons ce .nil)) :=
  j_methL PySem.F.slot_list_append PySem.F.type_list_append mt_append refm_append ho (ja_cons ha ja_nil hs) hbase hfew hline hs rfl
theorem j_insert {e2 : Expr} {ce2 : E} (ho : JE X W o co) (ha : JE X W e ce) (hb : JE X W e2 ce2) (hs : starEach [e, e2] X.env = (false, eval e X.env) :: starEach [e2] X.env := by rfl) (hs2 : starEach [e2] X.env = (false, eval e2 X.env) :: starEach [] X.env := by rfl) (hbase : attributeBase o "insert" X.env (eval o X.env) = eval o X.env := by rfl)
    (hfew : ((backTo pos (starEach [e, e2] X.env)).all (fun x => !x.1) && (backToKw pos (keywordEach [] X.env)).all (fun x => x.1.isSome)
      && decide ([e, e2].length + ([] : List Keyword).length + (if ([] : List Keyword).isEmpty then 0 else 1) < 30)) = true := by rfl)
    (hline : (apos.endLine == pos.line) = true := by rfl) (hplain : (backTo pos (starEach [e2] X.env)).any (·.1) = false := by rfl) : JE X W (.Call (.Attribute o "insert" apos) [e, e2] [] pos) (.meth chkL sInsert co (.cons ce (.cons ce2 .nil))) :=
  j_methL PySem.F.slot_list_insert PySem.F.type_list_insert mt_insert refm_insert ho (ja_cons ha (ja_cons hb ja_nil hs2) hs) hbase hfew hline hs hplain
/-! ### a[i] = e -/
theorem sSetIx_inv {v d i : D} {cs : Cs} {Q : KD} {PX : KX} (h : sSetIx [v, d, i] cs Q PX) : ∃ n k xs j, d = .ref n ∧ i = .int k ∧ cs n = some (.lst xs) ∧ ixn xs.length k = some j ∧ Q .non (put cs n (.lst (xs.set j v))) := by
  unfold sSetIx at h
  split at h
  · rename_i v n k e
    cases e
    split at h
    · rename_i xs ec
      split at h
      · rename_i j ej
        exact ⟨n, k, xs, j, rfl, rfl, ec, ej, h⟩
      · exact h.elim
    · exact h.elim
  · exact h.elim
theorem js_setIx {i : Expr} {ci : E} (he : JE X W e ce) (ho : JE X W o co) (hi : JE X W i ci) (hs : swapsWithSole [.Subscript o i apos] e pos.line X.env = pure false := by rfl) (hw : swappedStores [.Subscript o i apos] e X.env = pure none := by rfl)
    (h1 : (assignEach [.Subscript o i apos] X.env).map (·.2) = [assign (.Subscript o i apos) X.env] := by rfl)
    (ha : ∀ v, assign (.Subscript o i apos) X.env v = (do
      let ov ← holding [v] (eval o X.env)
      let iv ← holding [v, ov] (eval i X.env)
      standAt apos
      holding [v, ov, iv] (setItem ov iv v)
      release [v, ov, iv] []) := by intro _; rfl) : JS X W (.Assign [.Subscript o i apos] e pos) (.exp (.app sSetIx (.cons ce (.cons co (.cons ci .nil))))) := by
  obtain ⟨te, p1, r1⟩ := he
  obtain ⟨to, p2, r2⟩ := ho
  obtain ⟨ti, p3, r3⟩ := hi
  refine ⟨_, ps_asg p1 (pg_sub p2 p3 set_list ha) hs hw h1, fun wd F τ cs σ H P Q R rs h q => ?_⟩
  refine r1 wd F τ cs σ H _ _ _ R rs h (fun wd1 d1 c1 v1 H1 l1 R1 rv1 h1 => ?_) (q.xok rs)
  refine r2 wd1 F τ c1 σ H1 _ _ _ R1 (rs.mono l1) h1 (fun wd2 d2 c2 v2 H2 l2 R2 rv2 h2 => ?_) ((q.xok rs).mono l1)
  refine r3 wd2 F τ c2 σ H2 _ _ _ R2 (rs.mono (l1.trans l2)) h2 (fun wd3 d3 c3 v3 H3 l3 R3 rv3 h3 => ?_) ((q.xok rs).mono (l1.trans l2))
  obtain ⟨n, k, xs, j, e1, e2, ec, ej, hP⟩ := sSetIx_inv (v := d1) (d := d2) (i := d3) (cs := c3) (Q := fun x cs' => P.nx τ cs') (PX := fun x cs' => P.ex x τ cs') h3
  subst e1 e2
  obtain ⟨a, ws, ea, hH, rw', put'⟩ := R3.cellAt (rv2.mono l3) ec
  have l13 := l1.trans (l2.trans l3)
  refine ⟨a, ws, k, j, ea, rv3, hH, by rw [rw'.length]; exact ej, ?_⟩
  exact q.nx wd3 τ _ σ _ l13 (put' _ _ (rw'.set (rv1.mono (l2.trans l3)))) (rs.mono l13) hP
end
end G
namespace G
open PySem PySem.Spec L2
def sIAdd : Spec := sInt CTrue fun i j => .int (i + j)
section
variable {X : Cx} {W : WX} {pos p' : Pos} {e : Expr} {ce : E}
def ipC (C : Int → Int → Prop) (f : Int → Int → Int) : TIp := fun x y H Q => ∃ i j, x = .int i ∧ y = .int j ∧ C i j ∧ Q (.int (f i j)) H
theorem ip_mulA : PIp X .Mult (ipC CMulA fun i j => i * j) := by
  intro pins s σ H x y v u Q I r1 r2 h
  obtain ⟨i, j, e1, e2, hc, q⟩ := h
  subst e1 e2
  obtain ⟨t, rfl⟩ := r1
  obtain ⟨t', rfl⟩ := r2
  refine PyProof.Rows.imul_int ⟨.int _, H, I.tok _, ⟨_, rfl⟩, q⟩ ?_
  rcases hc with hc | hc
  · exact hc.ok
  · exact hc.ok
theorem ref_aug {i : Nat} {te : TE} {ti : TIp} {C : Int → Int → Prop} {f : Int → Int → Int} (r : RefE X W te ce) (h : ∀ i j H (Q : VK), C i j → Q (.int (f i j)) H → ti (.int i) (.int j) H Q) :
    RefS X W (tAug i te ti) (.asg (.nm i) (.app (sInt C fun i j => .int (f i j)) (.cons (.v i) (.cons ce .nil)))) := by
  intro wd F τ cs σ H P Q R rs hw q
  have hw : (match getV τ i with
    | some d => wpE ce τ cs (fun d2 c1 => sInt C (fun i j => .int (f i j)) [d, d2] c1 (fun d c2 => match bindP (.nm i) [d] τ with
      | some σ' => P.nx σ' c2
      | none => False) (fun x c2 => P.ex x τ c2)) (fun x c2 => P.ex x τ c2)
    | none => False) := hw
  cases e : getV τ i with
  | none => rw [e] at hw; exact hw.elim
  | some d =>
    rw [e] at hw
    obtain ⟨v, hv, rv⟩ := rs.at_ i d e
    refine ⟨v, hv, ?_⟩
    refine r wd F τ cs σ H _ _ _ R rs hw (fun wd1 d2 c1 v2 H1 l1 R1 rv2 h1 => ?_) (q.xok rs)
    obtain ⟨a, b, e1, e2, hc, hp⟩ := sInt_inv h1
    subst e1 e2
    rw [show v = _ from rv, show v2 = _ from rv2]
    exact h a b H1 _ hc (q.nx wd1 _ c1 _ H1 l1 R1 ((rs.mono l1).set (d := .int (f a b)) (v := .int (f a b)) i rfl) hp)
theorem js_augAdd (i : Nat) {x : Str} (hN : X.N.Nodup) (hi : X.N[i]? = some x) (hx : Loc X.env.scope x) (he : JE X W e ce) (hf : X.fn x = true ∨ X.env.scope.names.lookup x = some .local := by first | exact .inl rfl | exact .inr rfl | assumption) :
    JS X W (.AugAssign (.Name x p') .Add e pos) (.asg (.nm i) (.app sIAdd (.cons (.v i) (.cons ce .nil)))) := by
  obtain ⟨t, p1, r1⟩ := he
  exact ⟨_, ps_aug hN hi hx p1 ip_add hf, ref_aug (C := CTrue) (f := fun i j => i + j) r1 fun i j H Q _ q => ⟨i, j, rfl, rfl, q⟩⟩
theorem js_augSub (i : Nat) {x : Str} (hN : X.N.Nodup) (hi : X.N[i]? = some x) (hx : Loc X.env.scope x) (he : JE X W e ce) (hf : X.fn x = true ∨ X.env.scope.names.lookup x = some .local := by first | exact .inl rfl | exact .inr rfl | assumption) :
    JS X W (.AugAssign (.Name x p') .Sub e pos) (.asg (.nm i) (.app sSub (.cons (.v i) (.cons ce .nil)))) := by
  obtain ⟨t, p1, r1⟩ := he
  exact ⟨_, ps_aug hN hi hx p1 ip_sub hf, ref_aug (C := CTrue) (f := fun i j => i - j) r1 fun i j H Q _ q => ⟨i, j, rfl, rfl, q⟩⟩
theorem js_augMul (i : Nat) {x : Str} (hN : X.N.Nodup) (hi : X.N[i]? = some x) (hx : Loc X.env.scope x) (he : JE X W e ce) (hf : X.fn x = true ∨ X.env.scope.names.lookup x = some .local := by first | exact .inl rfl | exact .inr rfl | assumption) :
    JS X W (.AugAssign (.Name x p') .Mult e pos) (.asg (.nm i) (.app sMul (.cons (.v i) (.cons ce .nil)))) := by
  obtain ⟨t, p1, r1⟩ := he
  exact ⟨_, ps_aug hN hi hx p1 ip_mulA hf, ref_aug (C := mulOk) (f := fun i j => i * j) r1 fun i j H Q hc q => ⟨i, j, rfl, rfl, mulA_of hc, q⟩⟩
end
end G

/-! GKw: calls with keywords. -/
namespace G
open PySem PySem.Spec L2
open Evl (Ex)
theorem permL_vals : ∀ (ix : List Nat) {vs : List V} {us : List Value}, Vals vs us → Vals (permL ix vs) (permL ix us)
  | [], _, _, _ => .nil
  | i :: ix, vs, us, r => by
    have ih := permL_vals ix r
    unfold permL at ih ⊢
    rw [List.filterMap_cons, List.filterMap_cons]
    cases e : vs[i]? with
    | none =>
      rw [r.none_of e]
      exact ih
    | some v =>
      obtain ⟨u, h1, h2⟩ := r.get e
      rw [h1]
      exact .cons h2 ih
theorem RpL.none_of {K : PySem.W.Frag} {wd : Wd} {ds : List D} {vs : List V} {i : Nat} (r : RpL K wd ds vs) (e : ds[i]? = none) : vs[i]? = none := by
  have h := r.length
  have h2 : ds.length ≤ i := List.getElem?_eq_none_iff.mp e
  exact List.getElem?_eq_none_iff.mpr (by omega)
theorem permL_rp {K : PySem.W.Frag} {wd : Wd} : ∀ (ix : List Nat) {ds : List D} {vs : List V}, RpL K wd ds vs → RpL K wd (permL ix ds) (permL ix vs)
  | [], _, _, _ => rfl
  | i :: ix, ds, vs, r => by
    have ih := permL_rp ix r
    unfold permL at ih ⊢
    rw [List.filterMap_cons, List.filterMap_cons]
    cases e : ds[i]? with
    | none =>
      rw [r.none_of e]
      exact ih
    | some v =>
      obtain ⟨u, h1, h2⟩ := r.get e
      rw [h1]
      exact ⟨u, _, rfl, h2, ih⟩
/-- a def called with n values and the keywords ks -/
structure FnK (P : Program) (w : World) (K : PySem.W.Frag) (mg : Str → Option Value) (base : Heap) (x : Str) (k n : Nat) (ks : List Str) (ix : List Nat) (sp : Spec) : Prop where
  ex : ∃ f fd ps, mg x = some (.ref f) ∧ FnOk P w K mg base (L2N.CX P w) k f fd ps (lift K mg sp) ∧ PySem.W.keepIn K (.ref f) = true ∧
    ∀ (s : Shared) (us ws : List Value), us.length = n → ws.length = ks.length → BindsTo s fd ⟨us, ks.zip ws⟩ (ps.zip (permL ix (us ++ ws)))
section
variable {X : Cx} {W : WX} {pos p : Pos} {e : Expr} {es : List Expr} {kws : List Keyword} {ces cks call : Es} {sp : Spec} {x : Str} {k n : Nat} {ks : List Str} {ix : List Nat}
def JK (X : Cx) (W : WX) (kws : List Keyword) (c : Es) : Prop := ∃ ta, PK X kws ta ∧ RefA X W ta c
theorem jk_nil : JK X W [] .nil := ⟨_, pk_nil, fun wd F τ cs σ H P PX Q R r h q x => q wd [] cs [] H (Wd.le.refl _) R rfl h⟩
theorem jk_cons {ce : E} {nm : Option Str} {kpos : Pos} (h1 : JE X W e ce) (h2 : JK X W kws cks) : JK X W (⟨nm, e, kpos⟩ :: kws) (.cons ce cks) := by
  obtain ⟨te, p1, r1⟩ := h1
  obtain ⟨ta, p2, r2⟩ := h2
  refine ⟨_, pk_cons p1 p2, fun wd F τ cs σ H P PX Q R r h q x => ?_⟩
  refine r1 wd F τ cs σ H _ PX _ R r h (fun wd1 d c1 v H1 l1 R1 rv h1 => ?_) x
  refine r2 wd1 F τ c1 σ H1 _ PX _ R1 (r.mono l1) h1 (fun wd2 ds c2 vs H2 l2 R2 rvs h2 => ?_) (x.mono l1)
  exact q wd2 (d :: ds) c2 (v :: vs) H2 (l1.trans l2) R2 ⟨v, vs, rfl, rv.mono l2, rvs⟩ h2
/-- the callee runs -/
theorem run_kw {f : Addr} {fd : FuncData} {ps : List Str} {E : XK} {pins : List (Addr × Obj)} {σ : St} {H : Hp} {s : Shared} {Q : VK} {us ws : List Value} {vs zs : List V} (ok : FnOk X.prog X.w X.K X.mg X.base (L2N.CX X.prog X.w) k f fd ps (lift X.K X.mg sp)) (hr : Room k X.A) (hb : BindsTo s fd ⟨us, ks.zip ws⟩ (ps.zip (permL ix (us ++ ws))))
    (hx : PassesAt (L2N.CX X.prog X.w) X σ E) (I : Inv X pins σ H s) (r : Vals vs us) (rz : Vals zs ws) (h : lift X.K X.mg sp (permL ix (vs ++ zs)) H Q E) : wpAny (model X.prog X.w) X.A (PySem.call (.ref f) us (ks.zip ws)) (EP X pins σ Q) X.xe s := by
  refine wpAny_call (codeAny_mono (ok.run X.A X.stack s H ⟨us, ks.zip ws⟩ _ _ Q E hr I.env0 hb (permL_vals ix (r.append rz)) h) fun res s' hq => ?_)
  cases res with
  | error err => exact hx pins H s err s' I hq
  | ok fl =>
    cases fl with
    | ret u => exact I.after hq
    | next => exact hq.elim
    | brk => exact hq.elim
    | cont => exact hq.elim
theorem j_callk0 (F : FnK X.prog X.w X.K X.mg X.base x k 0 ks ix sp) (hr : Room k X.A) (tk : L2N.Takes X W) (hg : Gl X x) (hk : JK X W kws cks) (hall : (backToKw pos (keywordEach kws X.env)).all (·.1.isSome) = true := by rfl) (hks : (backToKw pos (keywordEach kws X.env)).filterMap (·.1) = ks := by rfl)
    (hdb : (x == ("__debug__" : Str)) = false := by decide) (hpl : ((backTo pos (starEach [] X.env)).any (·.1) || (backToKw pos (keywordEach kws X.env)).any (·.1.isNone)) = false := by rfl) (hlen : kws.length = ks.length := by rfl) :
    JE X W (.Call (.Name x p) [] kws pos) (.appk 0 ks.length ix sp .nil cks) := by
  obtain ⟨f, fd, ps, hm, ok, kp, hb⟩ := F.ex
  obtain ⟨ta, p1, r1⟩ := hk
  refine ⟨fun σ H Q => ta σ H fun zs H2 => zs.length = ks.length ∧ lift X.K X.mg sp (permL ix zs) H2 Q (WE W σ), ⟨fun pins s σ H Q I h => ?_⟩, fun wd F τ cs σ H P PX Q R rs h q x => ?_⟩
  · refine wpAny_Call_Name_kw (ld_glob I hg hm ?_ hdb)
    refine PySem.W.callWith_KW0 (h₀ := X.base) I.ok.mod.kin kp hall (thn (p1.run pos pins s σ H _ I h) fun ws s2 ⟨zs, H2, I2, rz, l2, q2⟩ => ⟨I2.kIn, ?_⟩) hpl
    rw [hks]
    exact run_kw (us := []) (vs := []) ok hr (hb s2 [] ws rfl (rz.length.symm.trans l2)) (L2N.passAt tk σ) I2 .nil rz q2
  · refine r1 wd F τ cs σ H _ PX _ R rs h (fun wd1 ds c1 vs H1 l1 R1 rv h1 => ⟨rv.length.trans h1.2.1, wd1, F, c1, permL ix ds, P, PX, R1, permL_rp ix rv, h1.2.2, q.mono l1, fun wd' y cs' cls dd H' l R' rx z => x wd' y cs' cls dd H' (l1.trans l) R' rx z⟩) x
theorem j_callk1 (F : FnK X.prog X.w X.K X.mg X.base x k n ks ix sp) (hr : Room k X.A) (tk : L2N.Takes X W) (hg : Gl X x) (ha : JA X W (e :: es) ces) (hk : JK X W kws cks) (hall : (backToKw pos (keywordEach kws X.env)).all (·.1.isSome) = true := by rfl) (hks : (backToKw pos (keywordEach kws X.env)).filterMap (·.1) = ks := by rfl)
    (hdb : (x == ("__debug__" : Str)) = false := by decide) (he : starEach (e :: es) X.env = (false, eval e X.env) :: starEach es X.env := by rfl) (hpl : ((backTo pos (starEach (e :: es) X.env)).any (·.1) || (backToKw pos (keywordEach kws X.env)).any (·.1.isNone)) = false := by rfl) :
    JE X W (.Call (.Name x p) (e :: es) kws pos) (.appk n ks.length ix sp ces cks) := by
  obtain ⟨f, fd, ps, hm, ok, kp, hb⟩ := F.ex
  obtain ⟨ta, p1, r1⟩ := ha
  obtain ⟨tk', p2, r2⟩ := hk
  refine ⟨fun σ H Q => ta σ H fun vs H1 => tk' σ H1 fun zs H2 => vs.length = n ∧ zs.length = ks.length ∧ lift X.K X.mg sp (permL ix (vs ++ zs)) H2 Q (WE W σ), ⟨fun pins s σ H Q I h => ?_⟩, fun wd F τ cs σ H P PX Q R rs h q x => ?_⟩
  · refine wpAny_Call_Name_kw (ld_glob I hg hm ?_ hdb)
    refine PySem.W.callWith_KW (h₀ := X.base) I.ok.mod.kin kp hall (thn (p1.run pos pins s σ H _ I h) fun us s1 ⟨vs, H1, I1, r1, q1⟩ => ?_) hpl he
    refine thn (p2.run pos pins s1 σ H1 _ I1 q1) fun ws s2 ⟨zs, H2, I2, rz, l1, l2, q2⟩ => ⟨I2.kIn, ?_⟩
    rw [hks]
    exact run_kw ok hr (hb s2 us ws (r1.length.symm.trans l1) (rz.length.symm.trans l2)) (L2N.passAt tk σ) I2 r1 rz q2
  · refine r1 wd F τ cs σ H _ PX _ R rs h (fun wd1 ds c1 vs H1 l1 R1 rv h1 => ?_) x
    refine r2 wd1 F τ c1 σ H1 _ PX _ R1 (rs.mono l1) h1 (fun wd2 es c2 zs H2 l2 R2 rz h2 => ?_) (x.mono l1)
    exact ⟨rv.length.trans h2.1, rz.length.trans h2.2.1, wd2, F, c2, permL ix (ds ++ es), P, PX, R2, permL_rp ix ((RpL.mono l2 _ _ rv).append rz), h2.2.2, q.mono (l1.trans l2), fun wd' y cs' cls dd H' l R' rx z => x wd' y cs' cls dd H' ((l1.trans l2).trans l) R' rx z⟩
end
end G

/-! GLib: the core's readings, simplified; the helpers of the laws. -/
namespace G
open PySem (Str)
def iD (ns : List Int) : List D := ns.map D.int
@[simp] theorem put_same {cs : Cs} {n : Nat} {o : Ob} : put cs n o n = some o := if_pos rfl
@[simp] theorem put_put {cs : Cs} {n : Nat} {o o' : Ob} : put (put cs n o) n o' = put cs n o' := by
  funext m
  unfold put
  split <;> rfl
theorem put_ne {cs : Cs} {n m : Nat} {o : Ob} (h : m ≠ n) : put cs n o m = cs m := if_neg h
theorem del_put {cs : Cs} {n : Nat} {o : Ob} (h : cs n = none) : del (put cs n o) n = cs := by
  funext m
  unfold del put
  by_cases e : m = n
  · rw [if_pos e, e, h]
  · rw [if_neg e, if_neg e]
/-! ### how operations read -/
@[simp] theorem sLt_i {i j : Int} {cs : Cs} {Q : KD} {X : KX} : sLt [.int i, .int j] cs Q X = Q (.bl (decide (i < j))) cs := by simp [sLt, sInt, CTrue]
@[simp] theorem sLe_i {i j : Int} {cs : Cs} {Q : KD} {X : KX} : sLe [.int i, .int j] cs Q X = Q (.bl (decide (i ≤ j))) cs := by simp [sLe, sInt, CTrue]
@[simp] theorem sGt_i {i j : Int} {cs : Cs} {Q : KD} {X : KX} : sGt [.int i, .int j] cs Q X = Q (.bl (decide (j < i))) cs := by simp [sGt, sInt, CTrue]
@[simp] theorem sGe_i {i j : Int} {cs : Cs} {Q : KD} {X : KX} : sGe [.int i, .int j] cs Q X = Q (.bl (decide (j ≤ i))) cs := by simp [sGe, sInt, CTrue]
@[simp] theorem sAdd_i {i j : Int} {cs : Cs} {Q : KD} {X : KX} : sAdd [.int i, .int j] cs Q X = Q (.int (i + j)) cs := rfl
@[simp] theorem sSub_i {i j : Int} {cs : Cs} {Q : KD} {X : KX} : sSub [.int i, .int j] cs Q X = Q (.int (i - j)) cs := by simp [sSub, sInt, CTrue]
@[simp] theorem sMul_i {i j : Int} {cs : Cs} {Q : KD} {X : KX} : sMul [.int i, .int j] cs Q X = (mulOk i j ∧ Q (.int (i * j)) cs) := rfl
@[simp] theorem sDiv_i {i j : Int} {cs : Cs} {Q : KD} {X : KX} : sDiv [.int i, .int j] cs Q X = (divOk i j ∧ Q (.int (i / j)) cs) := rfl
@[simp] theorem sMod_i {i j : Int} {cs : Cs} {Q : KD} {X : KX} : sMod [.int i, .int j] cs Q X = (0 < j ∧ Q (.int (i % j)) cs) := rfl
@[simp] theorem sPow_i {i j : Int} {cs : Cs} {Q : KD} {X : KX} : sPow [.int i, .int j] cs Q X = (powOk i j ∧ Q (.int (i ^ j.toNat)) cs) := rfl
@[simp] theorem sMax2_i {i j : Int} {cs : Cs} {Q : KD} {X : KX} : sMax2 [.int i, .int j] cs Q X = Q (.int (if j > i then j else i)) cs := by simp [sMax2, sInt, CTrue]
@[simp] theorem sMin2_i {i j : Int} {cs : Cs} {Q : KD} {X : KX} : sMin2 [.int i, .int j] cs Q X = Q (.int (if j < i then j else i)) cs := by simp [sMin2, sInt, CTrue]
@[simp] theorem getQ_lst {xs : List D} {cs : Cs} : getQ (.lst xs) cs = some xs := rfl
@[simp] theorem getQ_tup {xs : List D} {cs : Cs} : getQ (.tup xs) cs = some xs := rfl
@[simp] theorem getL_lst {xs : List D} {cs : Cs} : getL (.lst xs) cs = some xs := rfl
@[simp] theorem getQ_ref {n : Nat} {cs : Cs} : getQ (.ref n) cs = match cs n with
  | some (.lst xs) => some xs
  | _ => none := rfl
@[simp] theorem getL_ref {n : Nat} {cs : Cs} : getL (.ref n) cs = match cs n with
  | some (.lst xs) => some xs
  | _ => none := rfl
@[simp] theorem sIx_e {x : D} {i : Int} {cs : Cs} {Q : KD} {X : KX} : sIx [x, .int i] cs Q X = match getQ x cs with
    | some xs => match ix xs i with
      | some d => Q d cs
      | none => False
    | none => False := by cases x <;> rfl
@[simp] theorem sSetIx_e {v : D} {n : Nat} {i : Int} {cs : Cs} {Q : KD} {X : KX} : sSetIx [v, .ref n, .int i] cs Q X = match cs n with
    | some (.lst xs) => match ixn xs.length i with
      | some j => Q .non (put cs n (.lst (xs.set j v)))
      | none => False
    | _ => False := rfl
@[simp] theorem sLen_e {x : D} {cs : Cs} {Q : KD} {X : KX} (h : ∀ s, x ≠ .str s) : sLen [x] cs Q X = match getQ x cs with
    | some xs => Q (.int xs.length) cs
    | none => False := by
  cases x with
  | str s => exact absurd rfl (h s)
  | _ => rfl
theorem ix_nat {xs : List D} {i : Nat} {d : D} (h : xs[i]? = some d) : ix xs (i : Int) = some d := by
  have hl : i < xs.length := (List.getElem?_eq_some_iff.mp h).1
  unfold ix ixn
  rw [if_pos (by omega), if_pos (by omega)]
  exact h
theorem ix_last {xs : List D} {d : D} : ix (xs ++ [d]) (-1) = some d := by
  unfold ix ixn
  rw [if_neg (by decide), if_pos (by simp; omega)]
  show (xs ++ [d])[((-1 : Int) + ((xs ++ [d]).length : Nat)).toNat]? = some d
  have e : ((-1 : Int) + ((xs ++ [d]).length : Nat)).toNat = xs.length := by simp; omega
  rw [e]
  simp
@[simp] theorem ix_0 {x : D} {xs : List D} : ix (x :: xs) 0 = some x := ix_nat (i := 0) rfl
@[simp] theorem ix_1 {x y : D} {xs : List D} : ix (x :: y :: xs) 1 = some y := ix_nat (i := 1) rfl
@[simp] theorem ix_2 {x y z : D} {xs : List D} : ix (x :: y :: z :: xs) 2 = some z := ix_nat (i := 2) rfl
@[simp] theorem ix_3 {x y z w : D} {xs : List D} : ix (x :: y :: z :: w :: xs) 3 = some w := ix_nat (i := 3) rfl
@[simp] theorem ixn_0 {n : Nat} : ixn (n + 1) 0 = some 0 := by
  unfold ixn
  rw [if_pos (by omega), if_pos (by omega)]
  rfl
@[simp] theorem ixn_1 {n : Nat} : ixn (n + 1 + 1) 1 = some 1 := by
  unfold ixn
  rw [if_pos (by omega), if_pos (by omega)]
  rfl
@[simp] theorem ixn_2 {n : Nat} : ixn (n + 1 + 1 + 1) 2 = some 2 := by
  unfold ixn
  rw [if_pos (by omega), if_pos (by omega)]
  rfl
@[simp] theorem ixn_3 {n : Nat} : ixn (n + 1 + 1 + 1 + 1) 3 = some 3 := by
  unfold ixn
  rw [if_pos (by omega), if_pos (by omega)]
  rfl
theorem sIx_l {x : D} {i : Int} {xs : List D} {d : D} {cs : Cs} {Q : KD} {X : KX} (h : getQ x cs = some xs) (hd : ix xs i = some d) : sIx [x, .int i] cs Q X = Q d cs := by
  have e : sIx [x, .int i] cs Q X = (match getQ x cs with
    | some xs => match ix xs i with
      | some d => Q d cs
      | none => False
    | none => False) := by cases x <;> rfl
  rw [e, h]
  simp only [hd]
theorem getQ_cell {n : Nat} {cs : Cs} {xs : List D} (h : cs n = some (.lst xs)) : getQ (.ref n) cs = some xs := by
  show (match cs n with
    | some (.lst xs) => some xs
    | _ => none) = _
  rw [h]
theorem getL_cell {n : Nat} {cs : Cs} {xs : List D} (h : cs n = some (.lst xs)) : getL (.ref n) cs = some xs := by
  show (match cs n with
    | some (.lst xs) => some xs
    | _ => none) = _
  rw [h]
/-! ### loops -/
theorem compL_pure {p : Pat} {grd : Cs → Prop} {σ : Sl} {tst elt : Sl → Cs → KD → Prop} {Q : List D → Cs → Prop} {cs : Cs} (q : D → Bool) (f : D → D) (hg : grd cs) : ∀ (items acc : List D),
    (∀ x ∈ items, ∃ σ1, bindP p [x] σ = some σ1 ∧ (∀ K : KD, K (.bl (q x)) cs → tst σ1 cs K) ∧ (q x = true → ∀ K : KD, K (f x) cs → elt σ1 cs K)) →
    acc.length + items.length ≤ lim → Q (acc ++ (items.filter q).map f) cs → compL p grd σ tst elt Q items acc cs
  | [], acc, _, _, hQ => ⟨hg, by simpa using hQ⟩
  | x :: xs, acc, h, hl, hQ => by
    obtain ⟨σ1, hb, ht, he⟩ := h x List.mem_cons_self
    refine ⟨hg, ?_⟩
    rw [hb]
    have ih := fun acc => compL_pure (tst := tst) (elt := elt) (Q := Q) q f hg xs acc fun y hy => h y (List.mem_cons_of_mem _ hy)
    have hl2 : acc.length + (xs.length + 1) ≤ lim := by simpa using hl
    refine ht _ ?_
    cases e : q x with
    | true =>
      refine .inl ⟨rfl, he e _ ⟨by omega, ih _ (by simp; omega) ?_⟩⟩
      simpa [e] using hQ
    | false =>
      refine .inr ⟨rfl, ih _ (by omega) ?_⟩
      simpa [e] using hQ
theorem forL_inv {p : Pat} {grd : Cs → Prop} {body : Sl → Cs → Ends → Prop} {K : Ends} (I : Nat → Sl → Cs → Prop) : ∀ (items : List D) (i : Nat) {σ : Sl} {cs : Cs}, I i σ cs →
    (∀ j σ cs, i ≤ j → j ≤ i + items.length → I j σ cs → grd cs) →
    (∀ j x σ cs, items[j]? = some x → I (i + j) σ cs → ∃ σ1, bindP p [x] σ = some σ1 ∧ ∀ K', (∀ σ' cs', I (i + j + 1) σ' cs' → K'.nx σ' cs') → (∀ σ' cs', I (i + j + 1) σ' cs' → K'.ct σ' cs') → K'.bk = K.nx → K'.rt = K.rt → K'.ex = K.ex → body σ1 cs K') →
    (∀ σ cs, I (i + items.length) σ cs → K.nx σ cs) → forL p grd body K items σ cs
  | [], i, σ, cs, h0, hg, _, hd => ⟨hg i σ cs (Nat.le_refl _) (Nat.le_add_right _ _) h0, hd σ cs h0⟩
  | x :: xs, i, σ, cs, h0, hg, hs, hd => by
    refine ⟨hg i σ cs (Nat.le_refl _) (Nat.le_add_right _ _) h0, ?_⟩
    obtain ⟨σ1, hb, hbody⟩ := hs 0 x σ cs rfl h0
    rw [hb]
    have nxt : ∀ σ' cs', I (i + 1) σ' cs' → forL p grd body K xs σ' cs' := fun σ' cs' h1 =>
      forL_inv I xs (i + 1) h1 (fun j σ cs a b => hg j σ cs (by omega) (by simp at b ⊢; omega)) (fun j x σ cs hj hI => by
        have hI' : I (i + (j + 1)) σ cs := by rw [show i + (j + 1) = i + 1 + j by omega]; exact hI
        have := hs (j + 1) x σ cs (by simpa using hj) hI'
        rw [show i + (j + 1) + 1 = i + 1 + j + 1 by omega] at this
        exact this) fun σ cs h => hd σ cs (by rw [show i + (x :: xs).length = i + 1 + xs.length by simp; omega]; exact h)
    exact hbody _ nxt nxt rfl rfl rfl
/-- a while, by an invariant and a measure -/
theorem whl_inv {tst : Sl → Cs → KD → KX → Prop} {body : Sl → Cs → Ends → Prop} {K : Ends} (I : Nat → Sl → Cs → Prop)
    (h : ∀ m σ cs, I m σ cs → ∃ b : Bool, (∀ Q : KD, ∀ X : KX, Q (.bl b) cs → tst σ cs Q X) ∧ (b = false → K.nx σ cs) ∧
      (b = true → ∀ K', (∀ m' σ' cs', m' < m → I m' σ' cs' → K'.nx σ' cs') → (∀ m' σ' cs', m' < m → I m' σ' cs' → K'.ct σ' cs') → K'.bk = K.nx → K'.rt = K.rt → K'.ex = K.ex → body σ cs K')) :
    ∀ (n m : Nat) (σ : Sl) (cs : Cs), m < n → I m σ cs → whlN tst body K n σ cs
  | 0, _, _, _, hn, _ => absurd hn (Nat.not_lt_zero _)
  | n + 1, m, σ, cs, hn, hI => by
    obtain ⟨b, ht, hf, hb⟩ := h m σ cs hI
    refine ht _ _ ?_
    cases b with
    | true =>
      have nxt : ∀ m' σ' cs', m' < m → I m' σ' cs' → whlN tst body K n σ' cs' := fun m' σ' cs' hm h' => whl_inv I h n m' σ' cs' (by omega) h'
      exact .inl ⟨rfl, hb rfl _ nxt nxt rfl rfl rfl⟩
    | false => exact .inr ⟨rfl, hf rfl⟩
/-! ### a draw -/
def drwL (ns : List Int) (p c z : Int) : List D := [.lst (iD ns), .int p, .int c, .int z]
/-- a draw begins -/
def spStartU : Spec := fun ds cs Q _ => ds = [.scr] ∧ ∀ n ns p c z, cs n = none → DrwOk ns p c z → Q (.ref n) (put cs n (.lst (drwL ns p c z)))
def spStart : Spec := fun ds cs Q _ => ds = [.scr] ∧ ∀ n, cs n = none → Q (.ref n) (put cs n .drw)
/-- the draw, its cell open -/
def spTakeU : Spec := fun ds cs Q _ => ∃ n m ns p c z, ds = [.ref n, .int m] ∧ cs n = some (.lst (drwL ns p c z)) ∧ DrwOk ns p c z ∧ 0 < m ∧ m < 2 ^ 200 ∧
  ∀ p' c' z' r, DrwOk ns p' c' z' → 0 ≤ r → r < m → Q (.int r) (put cs n (.lst (drwL ns p' c' z')))
/-- .. closed -/
def spTake : Spec := fun ds cs Q _ => ∃ n m, ds = [.ref n, .int m] ∧ cs n = some .drw ∧ 0 < m ∧ m < 2 ^ 200 ∧ ∀ r, 0 ≤ r → r < m → Q (.int r) cs
/-- an item of a list -/
def spOf : Spec := fun ds cs Q _ => ∃ n x xs, ds = [.ref n, x] ∧ cs n = some .drw ∧ (∀ s, x ≠ .str s) ∧ getQ x cs = some xs ∧ xs ≠ [] ∧ xs.length ≤ lim ∧ ∀ d ∈ xs, Q d cs
/-- equal trees -/
def spS : Nat → Spec
  | 0 => fun _ _ _ _ => False
  | k + 1 => fun ds cs Q _ => ∃ x, ds = [x, x] ∧ pur k x = true ∧ Q (.bl true) cs
theorem pur_in {b : Bool} {k : Nat} {xs : List D} (h : (b && purs k xs) = true) : purs k xs = true := by
  rw [Bool.and_eq_true] at h
  exact h.2
theorem pur_len {n : Nat} {b : Bool} (h : (decide (n ≤ lim) && b) = true) : n ≤ lim := by
  rw [Bool.and_eq_true] at h
  exact of_decide_eq_true h.1
mutual
theorem eqD_refl : ∀ (k : Nat) (x : D), pur k x = true → eqD x x = true
  | _, .non, _ => rfl
  | _, .bl b, _ => by simp [eqD]
  | _, .int i, _ => by simp [eqD]
  | _, .str s, _ => by simp [eqD]
  | 0, .lst _, h => by cases h
  | 0, .tup _, h => by cases h
  | k + 1, .lst xs, h => by
    have h : purs k xs = true := pur_in h
    simp only [eqD]
    exact eqDs_refl k xs h
  | k + 1, .tup xs, h => by
    have h : purs k xs = true := pur_in h
    simp only [eqD]
    exact eqDs_refl k xs h
  | k, .dic _ _, h => by cases k <;> cases h
  | k, .ref _, h => by cases k <;> cases h
  | k, .scr, h => by cases k <;> cases h
theorem eqDs_refl : ∀ (k : Nat) (xs : List D), purs k xs = true → eqDs xs xs = true
  | _, [], _ => rfl
  | k, x :: xs, h => by
    have h : (pur k x && purs k xs) = true := h
    rw [Bool.and_eq_true] at h
    simp only [eqDs, eqD_refl k x h.1, eqDs_refl k xs h.2, Bool.and_self]
end
theorem purs_mem : ∀ {k : Nat} {xs : List D} {x : D}, purs k xs = true → x ∈ xs → pur k x = true
  | k, y :: ys, x, h, hx => by
    have h : (pur k y && purs k ys) = true := h
    rw [Bool.and_eq_true] at h
    rcases List.mem_cons.mp hx with e | e
    · rw [e]
      exact h.1
    · exact purs_mem h.2 e
theorem purs_of {k : Nat} : ∀ {xs : List D}, (∀ x ∈ xs, pur k x = true) → purs k xs = true
  | [], _ => rfl
  | x :: xs, h => by
    show (pur k x && purs k xs) = true
    rw [h x List.mem_cons_self, purs_of fun y hy => h y (List.mem_cons_of_mem _ hy)]
    rfl
theorem zipD_mem : ∀ {xs : List D} {d : D}, d ∈ zipD xs xs → ∃ x ∈ xs, d = .tup [x, x]
  | x :: xs, d, h => by
    rcases List.mem_cons.mp (show d ∈ D.tup [x, x] :: zipD xs xs from h) with e | e
    · exact ⟨x, List.mem_cons_self, e⟩
    · obtain ⟨y, hy, e⟩ := zipD_mem e
      exact ⟨y, List.mem_cons_of_mem _ hy, e⟩
theorem zipD_length : ∀ xs : List D, (zipD xs xs).length = xs.length
  | [] => rfl
  | x :: xs => by simp [zipD, zipD_length xs]
theorem asBools_true : ∀ (n : Nat), asBools (List.replicate n (.bl true)) = some (List.replicate n true)
  | 0 => rfl
  | n + 1 => by
    show (asBools (List.replicate n (.bl true))).map (true :: ·) = _
    rw [asBools_true n]
    rfl
end G

/-! GScr: the script cut; slices. -/
namespace G
open PySem PySem.Spec L2
open Evl (Ex)
section
variable {X : Cx} {W : WX} {pos p1 p2 : Pos} {e : Expr} {ce : E}
theorem ints_rp {K : PySem.W.Frag} {wd : Wd} : ∀ ns : List Int, RpL K wd (ns.map D.int) (ns.map V.int)
  | [] => rfl
  | n :: ns => ⟨_, _, rfl, rfl, ints_rp ns⟩
theorem sCutScr_inv {d : D} {cs : Cs} {Q : KD} {PX : KX} (h : sCutScr [d] cs Q PX) : d = .scr ∧ ∀ ns : List Int, ns.length ≤ 63 → (∀ n ∈ ns, n.natAbs < 2 ^ (2 ^ 20)) → Q (.lst (ns.map D.int)) cs := by
  unfold sCutScr at h
  split at h
  · rename_i e
    cases e
    exact ⟨rfl, h⟩
  · exact h.elim
theorem j_cutScr {j : Nat} (he : JE X W e ce) : JE X W (.Subscript e (.Slice none (some (.Constant (.int 63) j p2)) none p1) pos) (.app sCutScr (.cons ce .nil)) := by
  obtain ⟨te, p0, r0⟩ := he
  refine ⟨_, pe_slice sl_list p0 po_none (po_some pe_int), fun wd F τ cs σ H P PX Q R rs h q x => ?_⟩
  refine r0 wd F τ cs σ H _ PX _ R rs h (fun wd1 d c1 v H1 l1 R1 rv h1 => ?_) x
  obtain ⟨ed, h1⟩ := sCutScr_inv (PX := PX) h1
  subst ed
  obtain ⟨a, ns, ev, hs, hl, hb⟩ := rv
  have hcut : cutV (ns.map V.int) none (some 63) = (ns.take (min 63 ns.length)).map V.int := by
    unfold cutV
    simp [HT.sIx, List.map_take]
  refine ⟨63, rfl, a, ns.map V.int, ev, Evl.ex_l R1.b hs, fun p hp => ?_⟩
  rw [hcut]
  obtain ⟨wd2, l2, R2, r2⟩ := R1.lst hp (ints_rp (ns.take (min 63 ns.length)))
  exact q wd2 _ c1 _ _ (l1.trans l2) R2 r2 (h1 _ (by rw [List.length_take]; omega) fun n hn => hb n (List.mem_of_mem_take hn))
end
/-- a cell's content, told otherwise -/
theorem Rl.retell {K : PySem.W.Frag} {wd : Wd} {F H : Hp} {cs cs' : Cs} (R : Rl K wd F cs H) {n : Nat} {o' : Ob} (h : ∀ a u, wd.r n = some a → H a = some u → (∃ o, cs n = some o ∧ RpO K wd o u) → RpO K wd o' u) (hn : ∃ o, cs n = some o) (e' : cs' n = some o') (ne : ∀ m, m ≠ n → cs' m = cs m) : Rl K wd F cs' H := by
  refine ⟨R.b, R.f, R.bf, R.inj, fun m o e => ?_, R.ran, R.top, R.rf, R.fe, R.tab, R.bt⟩
  by_cases hm : m = n
  · subst hm
    rw [e'] at e
    cases e
    obtain ⟨o, ho⟩ := hn
    obtain ⟨a, u, f1, f2, f3, f4, f5⟩ := R.cell m o ho
    exact ⟨a, u, f1, f2, f3, f4, h a u f1 f4 ⟨o, ho, f5⟩⟩
  · rw [ne m hm] at e
    exact R.cell m o e
theorem drw_open {K : PySem.W.Frag} {wd : Wd} {u : HO} (h : RpO K wd .drw u) : ∃ ns p c z, DrwOk ns p c z ∧ RpO K wd (.lst (drwL ns p c z)) u := by
  obtain ⟨ns, p, c, z, a, e, hb, ok⟩ := h
  exact ⟨ns, p, c, z, ok, _, e, _, _, rfl, ⟨a, _, rfl, hb, ints_rp ns⟩, _, _, rfl, rfl, _, _, rfl, rfl, _, _, rfl, rfl, rfl⟩
theorem drw_close {K : PySem.W.Frag} {wd : Wd} {u : HO} {ns : List Int} {p c z : Int} (ok : DrwOk ns p c z) (h : RpO K wd (.lst (drwL ns p c z)) u) : RpO K wd .drw u := by
  obtain ⟨xs, e, v, r, e1, ⟨a, ws, ea, hb, hr⟩, v2, r2, e2, rfl, v3, r3, e3, rfl, v4, r4, e4, rfl, e5⟩ := h
  have : r4 = [] := e5
  subst this e4 e3 e2 e1 e ea
  have hw : ws = ns.map V.int := asInts_V hr (by
    have : ∀ l : List Int, asInts (iD l) = some l := by
      intro l
      induction l with
      | nil => rfl
      | cons x l ih =>
        show (asInts (iD l)).map (x :: ·) = _
        rw [ih]
        rfl
    exact this ns)
  subst hw
  exact ⟨ns, p, c, z, a, rfl, hb, ok⟩
section
variable {P : Program} {w : World} {K : PySem.W.Frag} {mg : Str → Option Value} {base : Heap} {k : Nat} {f : Addr} {fd : FuncData} {ps : List Str}
theorem put_self {cs : Cs} {n : Nat} {o : Ob} (h : cs n = some o) : put cs n o = cs := by
  funext m
  unfold put
  by_cases e : m = n
  · rw [if_pos e, e, h]
  · rw [if_neg e]
theorem seal_take (F : FnOk P w K mg base (L2N.CX P w) k f fd ps (lift K mg spTakeU)) : FnOk P w K mg base (L2N.CX P w) k f fd ps (lift K mg spTake) := by
  refine F.imp fun vs H Q E ⟨wd, F, cs, ds, PD, PX, R, r, hs, q, x⟩ => ?_
  obtain ⟨n, m, ed, hc, h0, h1, hk⟩ := hs
  obtain ⟨a, u, f1, f2, f3, f4, f5⟩ := R.cell n _ hc
  obtain ⟨ns, p, c, z, ok, ro⟩ := drw_open f5
  have R' : Rl K wd F (put cs n (.lst (drwL ns p c z))) H := R.retell (n := n) (fun a' u' g1 g2 _ => by
    have : a' = a := Option.some.inj (g1.symm.trans f1)
    subst this
    rw [f4] at g2
    cases g2
    exact ro) ⟨_, hc⟩ (if_pos rfl) fun m hm => if_neg hm
  refine ⟨wd, F, put cs n (.lst (drwL ns p c z)), ds, fun d cs' => (∃ p' c' z', DrwOk ns p' c' z' ∧ cs' = put cs n (.lst (drwL ns p' c' z'))) ∧ PD d cs, fun _ _ => False, R', r, ⟨n, m, ns, p, c, z, ed, if_pos rfl, ok, h0, h1, fun p' c' z' y ok' y0 y1 => ⟨⟨p', c', z', ok', put_put⟩, hk y y0 y1⟩⟩, fun wd' d cs' v H' l R2 rv ⟨⟨p', c', z', ok', e⟩, hp⟩ => ?_, fun _ _ _ _ _ _ _ _ _ z => z.elim⟩
  subst e
  refine q wd' d cs v H' l (R2.retell (n := n) (o' := .drw) (fun a' u' _ _ ⟨o, ho, hr⟩ => ?_) ⟨_, if_pos rfl⟩ hc fun m hm => (if_neg hm).symm) rv hp
  rw [put_same] at ho
  cases ho
  exact drw_close ok' hr
theorem seal_start (F : FnOk P w K mg base (L2N.CX P w) k f fd ps (lift K mg spStartU)) : FnOk P w K mg base (L2N.CX P w) k f fd ps (lift K mg spStart) := by
  refine F.imp fun vs H Q E ⟨wd, F, cs, ds, PD, PX, R, r, hs, q, x⟩ => ?_
  obtain ⟨ed, hk⟩ := hs
  refine ⟨wd, F, cs, ds, fun d cs' => ∃ n ns p c z, cs n = none ∧ DrwOk ns p c z ∧ d = .ref n ∧ cs' = put cs n (.lst (drwL ns p c z)), fun _ _ => False, R, r, ⟨ed, fun n ns p c z hn ok => ⟨n, ns, p, c, z, hn, ok, rfl, rfl⟩⟩, fun wd' d cs' v H' l R2 rv ⟨n, ns, p, c, z, hn, ok, e1, e2⟩ => ?_, fun _ _ _ _ _ _ _ _ _ z => z.elim⟩
  subst e1 e2
  refine q wd' (.ref n) (put cs n .drw) v H' l (R2.retell (n := n) (o' := .drw) (fun a' u' _ _ ⟨o, ho, hr⟩ => ?_) ⟨_, if_pos rfl⟩ put_same fun m hm => (if_neg hm).trans (if_neg hm).symm) rv (hk n hn)
  rw [put_same] at ho
  cases ho
  exact drw_close ok hr
end
end G

namespace G
open PySem (Str)
def c_take_1 : S := (.asg (.nm 2) (.app sIx (.cons (.app sIx (.cons (.v 0) (.cons (.c (.int 0)) .nil))) (.cons (.app sIx (.cons (.v 0) (.cons (.c (.int 1)) .nil))) .nil))))
def c_take_2 : S := (.exp (.app sSetIx (.cons (.app sAdd (.cons (.app sIx (.cons (.v 0) (.cons (.c (.int 1)) .nil))) (.cons (.c (.int 1)) .nil))) (.cons (.v 0) (.cons (.c (.int 1)) .nil)))))
def c_take_3 : S := (.exp (.app sSetIx (.cons (.c (.int 0)) (.cons (.v 0) (.cons (.c (.int 2)) .nil)))))
def c_take_4 : S := (.exp (.app sSetIx (.cons (.v 2) (.cons (.v 0) (.cons (.c (.int 2)) .nil)))))
def c_take_5 : S := (.ite (.app sGe (.cons (.v 2) (.cons (.app sPow (.cons (.c (.int 10)) (.cons (.c (.int 18)) .nil))) .nil))) (c_take_4) .skip)
def c_take_6 : S := (.exp (.app sSetIx (.cons (.app sMod (.cons (.app sAdd (.cons (.app sAdd (.cons (.app sMul (.cons (.app sIx (.cons (.v 0) (.cons (.c (.int 3)) .nil))) (.cons (.c (.int 52711)) .nil))) (.cons (.app sMul (.cons (.app sMod (.cons (.v 2) (.cons (.c (.int 2305843009213693951)) .nil))) (.cons (.c (.int 7)) .nil))) .nil))) (.cons (.app sIx (.cons (.v 0) (.cons (.c (.int 1)) .nil))) .nil))) (.cons (.c (.int 2305843009213693951)) .nil))) (.cons (.v 0) (.cons (.c (.int 3)) .nil)))))
def c_take_7 : S := (.ite (.and (.app sLt (.cons (.app sIx (.cons (.v 0) (.cons (.c (.int 2)) .nil))) (.cons (.v 1) .nil))) (.app sLt (.cons (.app sIx (.cons (.v 0) (.cons (.c (.int 1)) .nil))) (.cons (.app sLen (.cons (.app sIx (.cons (.v 0) (.cons (.c (.int 0)) .nil))) .nil)) .nil)))) (.seq (c_take_1) (.seq (c_take_2) (.seq (c_take_3) (.seq (c_take_5) (c_take_6))))) .skip)
def c_take_8 : S := (.asg (.nm 3) (.app sMod (.cons (.app sIx (.cons (.v 0) (.cons (.c (.int 2)) .nil))) (.cons (.v 1) .nil))))
def c_take_9 : S := (.exp (.app sSetIx (.cons (.app sDiv (.cons (.app sIx (.cons (.v 0) (.cons (.c (.int 2)) .nil))) (.cons (.v 1) .nil))) (.cons (.v 0) (.cons (.c (.int 2)) .nil)))))
def c_take_10 : S := (.ret (.v 3))
def c_take_11 : S := (.ite (.app sGe (.cons (.app sIx (.cons (.v 0) (.cons (.c (.int 2)) .nil))) (.cons (.v 1) .nil))) (.seq (c_take_8) (.seq (c_take_9) (c_take_10))) .skip)
def c_take_12 : S := (.asg (.nm 4) (.app sMod (.cons (.app sMul (.cons (.app sIx (.cons (.v 0) (.cons (.c (.int 3)) .nil))) (.cons (.app sIx (.cons (.v 0) (.cons (.c (.int 3)) .nil))) .nil))) (.cons (.c (.int 2305843009213693951)) .nil))))
def c_take_13 : S := (.exp (.app sSetIx (.cons (.app sMod (.cons (.app sAdd (.cons (.app sAdd (.cons (.app sMul (.cons (.v 4) (.cons (.c (.int 48271)) .nil))) (.cons (.app sMul (.cons (.app sIx (.cons (.v 0) (.cons (.c (.int 3)) .nil))) (.cons (.c (.int 16807)) .nil))) .nil))) (.cons (.c (.int 12345)) .nil))) (.cons (.c (.int 2305843009213693951)) .nil))) (.cons (.v 0) (.cons (.c (.int 3)) .nil)))))
def c_take_14 : S := (.ret (.app sMod (.cons (.app sDiv (.cons (.app sIx (.cons (.v 0) (.cons (.c (.int 3)) .nil))) (.cons (.c (.int 1021)) .nil))) (.cons (.v 1) .nil))))
def c_take : S := (.seq (c_take_7) (.seq (c_take_11) (.seq (c_take_12) (.seq (c_take_13) (c_take_14)))))
theorem mulOk_r {i j : Int} (h : -(2 ^ 64) < j ∧ j < 2 ^ 64) : mulOk i j := .inr (.inl h)
theorem mulOk_l {i j : Int} (h : -(2 ^ 64) < i ∧ i < 2 ^ 64) : mulOk i j := .inl h
theorem DrwOk.set {ns : List Int} {p c z : Int} (ok : DrwOk ns p c z) {p' c' z' : Int} (hp : 0 ≤ p') (hc : 0 ≤ c') (hz : 0 ≤ z') (hz1 : z' < 2305843009213693951) : DrwOk ns p' c' z' := ⟨ok.len, ok.big, hp, hc, hz, hz1⟩
theorem take_log {m : Int} (h : 0 < m) (h2 : m < 2 ^ 200) : m.natAbs.log2 < 9000 := by
  have : m.natAbs ≠ 0 := by omega
  exact Nat.lt_trans ((Nat.log2_lt this).mpr (show m.natAbs < 2 ^ 200 by omega)) (by decide)
theorem take_tail {cs : Cs} {Q : KD} {X : KX} {n : Nat} {m : Int} {ns : List Int} {p c z : Int} {t2 : Option D} (hc : cs n = some (.lst (drwL ns p c z))) (ok : DrwOk ns p c z) (hm : 0 < m) (hm2 : m < 2 ^ 200)
    (k : ∀ p' c' z' r, DrwOk ns p' c' z' → 0 ≤ r → r < m → Q (.int r) (put cs n (.lst (drwL ns p' c' z')))) :
    wpS (.seq c_take_11 (.seq c_take_12 (.seq c_take_13 c_take_14))) [some (.ref n), some (.int m), t2, none, none] cs { nx := fun _ cs' => Q .non cs', rt := Q, ex := fun x _ cs' => X x cs' } := by
  have z0 := ok.z0
  have z1 := ok.z1
  have r0 : ∀ x : Int, 0 ≤ x % m := fun x => Int.emod_nonneg _ (by omega)
  have r1 : ∀ x : Int, x % m < m := fun x => Int.emod_lt_of_pos _ hm
  have q0 : ∀ x : Int, 0 ≤ x % 2305843009213693951 := fun x => Int.emod_nonneg _ (by decide)
  have q1 : ∀ x : Int, x % 2305843009213693951 < 2305843009213693951 := fun x => Int.emod_lt_of_pos _ (by decide)
  simp only [wpS]
  rw [c_take_11]
  simp [hc, drwL]
  split
  · rw [c_take_8, c_take_9, c_take_10]
    simp [hc, drwL]
    refine ⟨hm, ⟨hm, take_log hm hm2⟩, ?_⟩
    exact k p (c / m) z (c % m) (ok.set ok.p0 (Int.ediv_nonneg ok.c0 (by omega)) z0 z1) (r0 _) (r1 _)
  · rw [c_take_12, c_take_13, c_take_14]
    simp [hc, drwL]
    refine ⟨mulOk_r (by omega), mulOk_r (by omega), mulOk_r (by omega), ⟨by decide, by decide⟩, hm, ?_⟩
    exact k p c _ _ (ok.set ok.p0 ok.c0 (q0 _) (q1 _)) (r0 _) (r1 _)
theorem ok_take : okFn 5 c_take spTakeU := by
  rintro ds cs Q X ⟨n, m, ns, p, c, z, rfl, hc, ok, hm, hm2, k⟩
  show wpS (.seq c_take_7 (.seq c_take_11 (.seq c_take_12 (.seq c_take_13 c_take_14)))) [some (.ref n), some (.int m), none, none, none] cs _
  have p0 := ok.p0
  have z0 := ok.z0
  have z1 := ok.z1
  have q0 : ∀ x : Int, 0 ≤ x % 2305843009213693951 := fun x => Int.emod_nonneg _ (by decide)
  have q1 : ∀ x : Int, x % 2305843009213693951 < 2305843009213693951 := fun x => Int.emod_lt_of_pos _ (by decide)
  have tl := fun (cs' : Cs) (t2 : Option D) (p' c' z' : Int) (hc' : cs' n = some (.lst (drwL ns p' c' z'))) (ok' : DrwOk ns p' c' z') (k' : ∀ p' c' z' r, DrwOk ns p' c' z' → 0 ≤ r → r < m → Q (.int r) (put cs' n (.lst (drwL ns p' c' z')))) => take_tail (X := X) (t2 := t2) hc' ok' hm hm2 k'
  simp only [wpS] at tl
  simp only [wpS]
  rw [c_take_7]
  simp [hc, drwL]
  split
  · split
    · rename_i h1 h2
      obtain ⟨j, rfl⟩ : ∃ j : Nat, p = j := ⟨p.toNat, by omega⟩
      have hl : (iD ns).length = ns.length := by simp [iD]
      have hj : j < ns.length := by omega
      have hix : ix (iD ns) (j : Int) = some (.int ns[j]) := ix_nat (by simp [iD, hj])
      rw [c_take_1, c_take_2, c_take_3]
      simp [hc, drwL, hix]
      rw [c_take_5]
      simp [hc, drwL, hix]
      refine ⟨by unfold powOk; omega, ?_⟩
      split
      · rw [c_take_4, c_take_6]
        simp [hc, drwL, hix]
        refine ⟨mulOk_r (by omega), mulOk_r (by omega), ?_⟩
        refine tl _ _ _ _ _ put_same (ok.set (by omega) (by omega) (q0 _) (q1 _)) fun p' c' z' r o' a b => ?_
        rw [put_put]
        exact k p' c' z' r o' a b
      · rw [c_take_6]
        simp [hc, drwL, hix]
        refine ⟨mulOk_r (by omega), mulOk_r (by omega), ?_⟩
        refine tl _ _ _ _ _ put_same (ok.set (by omega) (by omega) (q0 _) (q1 _)) fun p' c' z' r o' a b => ?_
        rw [put_put]
        exact k p' c' z' r o' a b
    · exact tl _ _ _ _ _ hc ok k
  · exact tl _ _ _ _ _ hc ok k
end G

namespace G
open PySem (Str)
def c_of_1 (p__law_take : G.Spec) : S := (.ret (.app sIx (.cons (.v 1) (.cons (.app p__law_take (.cons (.v 0) (.cons (.app sLen (.cons (.v 1) .nil)) .nil))) .nil))))
def c_of (p__law_take : G.Spec) : S := (c_of_1 p__law_take)
def c_same_1 (p__law_same : G.Spec) : S := (.ret (.app sIsN (.cons (.v 0) (.cons (.c .non) .nil))))
def c_same_2 (p__law_same : G.Spec) : S := (.ite (.app sIsN (.cons (.v 1) (.cons (.c .non) .nil))) (c_same_1 p__law_same) .skip)
def c_same_3 (p__law_same : G.Spec) : S := (.ret (.c (.bl false)))
def c_same_4 (p__law_same : G.Spec) : S := (.ite (.or (.app sNe (.cons (.app (sIsi .list) (.cons (.v 0) .nil)) (.cons (.app (sIsi .list) (.cons (.v 1) .nil)) .nil))) (.app sNe (.cons (.app (sIsi .tuple) (.cons (.v 0) .nil)) (.cons (.app (sIsi .tuple) (.cons (.v 1) .nil)) .nil)))) (c_same_3 p__law_same) .skip)
def c_same_5 (p__law_same : G.Spec) : S := (.ret (.and (.app sEq (.cons (.app sLen (.cons (.v 0) .nil)) (.cons (.app sLen (.cons (.v 1) .nil)) .nil))) (.app sAll (.cons (.comp false [2, 3] (.tup (.cons (.nm 2) (.cons (.nm 3) .nil))) iZip (.cons (.v 0) (.cons (.v 1) .nil)) (.c (.bl true)) (.app p__law_same (.cons (.v 2) (.cons (.v 3) .nil)))) .nil))))
def c_same_6 (p__law_same : G.Spec) : S := (.ite (.app (sIsi2 .list .tuple) (.cons (.v 1) .nil)) (.seq (c_same_4 p__law_same) (c_same_5 p__law_same)) .skip)
def c_same_7 (p__law_same : G.Spec) : S := (.ret (.c (.bl false)))
def c_same_8 (p__law_same : G.Spec) : S := (.ite (.or (.app sNe (.cons (.app (sIsi .bool) (.cons (.v 1) .nil)) (.cons (.app (sIsi .bool) (.cons (.v 0) .nil)) .nil))) (.app sNe (.cons (.app (sIsi .int) (.cons (.v 1) .nil)) (.cons (.app (sIsi .int) (.cons (.v 0) .nil)) .nil)))) (c_same_7 p__law_same) .skip)
def c_same_9 (p__law_same : G.Spec) : S := (.ret (.and (.app sEq (.cons (.app (sIsi .str) (.cons (.v 1) .nil)) (.cons (.app (sIsi .str) (.cons (.v 0) .nil)) .nil))) (.app sEq (.cons (.v 0) (.cons (.v 1) .nil)))))
def c_same (p__law_same : G.Spec) : S := (.seq (c_same_2 p__law_same) (.seq (c_same_6 p__law_same) (.seq (c_same_8 p__law_same) (c_same_9 p__law_same))))
theorem log_lt {n : Nat} (h : n < 2 ^ 200) : n.log2 < 9000 := by
  by_cases e : n = 0
  · subst e
    decide
  · exact Nat.lt_trans ((Nat.log2_lt e).mpr h) (by decide)
theorem ok_of : okFn 2 (c_of spTake) spOf := by
  rintro ds cs Q X ⟨n, x, xs, rfl, hc, hx, hq, ne, hl, k⟩
  show wpS (c_of_1 spTake) [some (.ref n), some x] cs _
  rw [c_of_1]
  simp [sLen_e hx, hq]
  have l0 : 0 < xs.length := List.length_pos_iff.mpr ne
  refine ⟨n, xs.length, rfl, hc, by omega, by simp [lim] at hl; omega, fun r h0 h1 => ?_⟩
  obtain ⟨j, rfl⟩ : ∃ j : Nat, r = j := ⟨r.toNat, by omega⟩
  have hj : j < xs.length := by omega
  simp [hq, ix_nat (List.getElem?_eq_getElem hj)]
  exact k _ (List.getElem_mem hj)
@[simp] theorem sIsN_e {x : D} {cs : Cs} {Q : KD} {X : KX} : sIsN [x, .non] cs Q X = Q (.bl (isN x)) cs := rfl
@[simp] theorem sNotN_e {x : D} {cs : Cs} {Q : KD} {X : KX} : sNotN [x, .non] cs Q X = Q (.bl (!isN x)) cs := rfl
@[simp] theorem sIsi_e {t : Ty} {x : D} {cs : Cs} {Q : KD} {X : KX} : sIsi t [x] cs Q X = match isTy cs x t with
    | some b => Q (.bl b) cs
    | none => False := rfl
@[simp] theorem sIsi2_e {t t' : Ty} {x : D} {cs : Cs} {Q : KD} {X : KX} : sIsi2 t t' [x] cs Q X = match isTy cs x t, isTy cs x t' with
    | some a, some b => Q (.bl (a || b)) cs
    | _, _ => False := rfl
theorem sEq_e {x y : D} {cs : Cs} {Q : KD} {X : KX} : sEq [x, y] cs Q X = (pur 64 (deref cs x) = true ∧ pur 64 (deref cs y) = true ∧ Q (.bl (eqD (deref cs x) (deref cs y))) cs) := rfl
theorem sNe_e {x y : D} {cs : Cs} {Q : KD} {X : KX} : sNe [x, y] cs Q X = (pur 64 (deref cs x) = true ∧ pur 64 (deref cs y) = true ∧ Q (.bl (!eqD (deref cs x) (deref cs y))) cs) := rfl
@[simp] theorem sEq_i {i j : Int} {cs : Cs} {Q : KD} {X : KX} : sEq [.int i, .int j] cs Q X = Q (.bl (i == j)) cs := by simp [sEq, deref, pur, eqD]
@[simp] theorem sNe_i {i j : Int} {cs : Cs} {Q : KD} {X : KX} : sNe [.int i, .int j] cs Q X = Q (.bl (!(i == j))) cs := by simp [sNe, deref, pur, eqD]
@[simp] theorem sEq_b {i j : Bool} {cs : Cs} {Q : KD} {X : KX} : sEq [.bl i, .bl j] cs Q X = Q (.bl (i == j)) cs := by simp [sEq, deref, pur, eqD]
@[simp] theorem sNe_b {i j : Bool} {cs : Cs} {Q : KD} {X : KX} : sNe [.bl i, .bl j] cs Q X = Q (.bl (!(i == j))) cs := by simp [sNe, deref, pur, eqD]
@[simp] theorem sAll_e {x : D} {cs : Cs} {Q : KD} {X : KX} : sAll [x] cs Q X = match getL x cs with
    | some xs => match asBools xs with
      | some bs => Q (.bl (bs.all id)) cs
      | none => False
    | none => False := rfl
theorem map_const {α : Type} {d : D} : ∀ xs : List α, xs.map (fun _ => d) = List.replicate xs.length d
  | [] => rfl
  | x :: xs => by simp [map_const xs, List.replicate_succ]
theorem ok_same (k : Nat) (hk : k ≤ 64) : okFn 4 (c_same (spS k)) (spS (k + 1)) := by
  rintro ds cs Q X ⟨x, rfl, hp, hQ⟩
  show wpS (c_same (spS k)) [some x, some x, none, none] cs _
  unfold c_same
  simp only [wpS]
  have seqs : ∀ (k' : Nat) (xs : List D), k = k' + 1 → purs k' xs = true → xs.length ≤ lim → ∀ (σ : Sl) (elt : Sl → Cs → KD → Prop) (R : List D → Cs → Prop), (∀ y, y ∈ xs → ∀ K : KD, K (.bl true) cs → ∃ σ1, bindP (.tup (.cons (.nm 2) (.cons (.nm 3) .nil))) [.tup [y, y]] σ = some σ1 ∧ elt σ1 cs K) →
      R (List.replicate xs.length (.bl true)) cs → ∀ grd : Cs → Prop, grd cs → compL (.tup (.cons (.nm 2) (.cons (.nm 3) .nil))) grd σ (fun σ1 c2 K => K (D.bl true) c2) elt R (zipD xs xs) [] cs := fun k' xs ek hx hl σ elt R he hR grd hg => by
    refine compL_pure (fun _ => true) (fun _ => .bl true) hg _ _ (fun d hd => ?_) (by simpa [zipD_length] using hl) ?_
    · obtain ⟨y, hy, e⟩ := zipD_mem hd
      subst e
      obtain ⟨σ1, h1, _⟩ := he y hy (fun _ _ => True) trivial
      refine ⟨σ1, h1, fun K h => h, fun _ K h => ?_⟩
      obtain ⟨σ2, h2, h3⟩ := he y hy K h
      rw [h1] at h2
      cases h2
      exact h3
    · have e : (zipD xs xs).filter (fun _ => true) = zipD xs xs := List.filter_eq_self.mpr (by simp)
      rw [e]
      simpa [map_const, zipD_length] using hR
  rw [c_same_2]
  cases x with
  | non =>
    rw [c_same_1]
    simp [isN]
    exact hQ
  | int i =>
    simp [isN]
    rw [c_same_6]
    simp [isTy]
    rw [c_same_8]
    simp [isTy]
    rw [c_same_9]
    simp [isTy]
    exact hQ
  | bl i =>
    simp [isN]
    rw [c_same_6]
    simp [isTy]
    rw [c_same_8]
    simp [isTy]
    rw [c_same_9]
    simp [isTy]
    exact hQ
  | str i =>
    simp [isN]
    rw [c_same_6]
    simp [isTy]
    rw [c_same_8]
    simp [isTy]
    rw [c_same_9]
    have hs : strOk i = true := by cases k <;> exact hp
    simp [isTy, sEq_e, deref, pur, eqD, hs]
    exact hQ
  | lst xs =>
    obtain ⟨k', rfl⟩ : ∃ k', k = k' + 1 := by
      cases k with
      | zero => cases hp
      | succ k' => exact ⟨k', rfl⟩
    simp [isN]
    rw [c_same_6]
    simp [isTy]
    rw [c_same_4]
    simp [isTy]
    rw [c_same_5]
    simp [iZip]
    refine seqs k' xs rfl (pur_in hp) (pur_len hp) _ _ _ (fun y hy K h => ⟨_, rfl, y, rfl, purs_mem (pur_in hp) hy, h⟩) ?_ _ (by simp [grdL])
    simp [asBools_true]
    exact hQ
  | tup xs =>
    obtain ⟨k', rfl⟩ : ∃ k', k = k' + 1 := by
      cases k with
      | zero => cases hp
      | succ k' => exact ⟨k', rfl⟩
    simp [isN]
    rw [c_same_6]
    simp [isTy]
    rw [c_same_4]
    simp [isTy]
    rw [c_same_5]
    simp [iZip]
    refine seqs k' xs rfl (pur_in hp) (pur_len hp) _ _ _ (fun y hy K h => ⟨_, rfl, y, rfl, purs_mem (pur_in hp) hy, h⟩) ?_ _ trivial
    simp [asBools_true]
    exact hQ
  | _ => cases k <;> cases hp
end G

/-! GLaw: the laws' helpers, as rewriting rules. -/
namespace G
open PySem (Str)
theorem spTake_e {n : Nat} {m : Int} {cs : Cs} {Q : KD} {X : KX} : spTake [.ref n, .int m] cs Q X = (cs n = some .drw ∧ 0 < m ∧ m < 2 ^ 200 ∧ ∀ r, 0 ≤ r → r < m → Q (.int r) cs) := by
  apply propext
  constructor
  · rintro ⟨_, _, h, hc, h0, h1, k⟩
    cases h
    exact ⟨hc, h0, h1, k⟩
  · rintro ⟨hc, h0, h1, k⟩
    exact ⟨_, _, rfl, hc, h0, h1, k⟩
theorem spOf_e {n : Nat} {x : D} {cs : Cs} {Q : KD} {X : KX} : spOf [.ref n, x] cs Q X = (cs n = some .drw ∧ (∀ s, x ≠ .str s) ∧ ∃ xs, getQ x cs = some xs ∧ xs ≠ [] ∧ xs.length ≤ lim ∧ ∀ d ∈ xs, Q d cs) := by
  apply propext
  constructor
  · rintro ⟨_, _, xs, h, hc, h1, h2, h3, h4, k⟩
    cases h
    exact ⟨hc, h1, xs, h2, h3, h4, k⟩
  · rintro ⟨hc, h1, xs, h2, h3, h4, k⟩
    exact ⟨_, _, _, rfl, hc, h1, h2, h3, h4, k⟩
theorem spS_e {k : Nat} {x y : D} {cs : Cs} {Q : KD} {X : KX} : spS (k + 1) [x, y] cs Q X = (x = y ∧ pur k x = true ∧ Q (.bl true) cs) := by
  apply propext
  constructor
  · rintro ⟨_, h, hc, k⟩
    cases h
    exact ⟨rfl, hc, k⟩
  · rintro ⟨h, hc, k⟩
    subst h
    exact ⟨_, rfl, hc, k⟩
theorem spStart_e {cs : Cs} {Q : KD} {X : KX} : spStart [.scr] cs Q X = (∀ n, cs n = none → Q (.ref n) (put cs n .drw)) := by
  apply propext
  constructor
  · rintro ⟨_, h⟩
    exact h
  · exact fun h => ⟨rfl, h⟩
theorem log_le (a : Int) (n : Nat) (h : a.natAbs < 2 ^ n) (hn : n < 9000) : a.natAbs.log2 < 9000 := by
  by_cases e : a.natAbs = 0
  · rw [e]
    decide
  · exact Nat.lt_trans ((Nat.log2_lt e).mpr h) hn
@[simp] theorem sNot_e {b : Bool} {cs : Cs} {Q : KD} {X : KX} : sNot [.bl b] cs Q X = Q (.bl (!b)) cs := rfl
@[simp] theorem sNeg_e {i : Int} {cs : Cs} {Q : KD} {X : KX} : sNeg [.int i] cs Q X = Q (.int (-i)) cs := rfl
@[simp] theorem sList_e {ds : List D} {cs : Cs} {Q : KD} {X : KX} : sList ds cs Q X = (ds.length ≤ lim ∧ Q (.lst ds) cs) := rfl
@[simp] theorem sTup_e {ds : List D} {cs : Cs} {Q : KD} {X : KX} : sTup ds cs Q X = (ds.length ≤ lim ∧ Q (.tup ds) cs) := rfl
@[simp] theorem sListM_e {ds : List D} {cs : Cs} {Q : KD} {X : KX} : sListM ds cs Q X = (ds.length ≤ lim ∧ ∀ n, cs n = none → Q (.ref n) (put cs n (.lst ds))) := rfl
@[simp] theorem sAdd_l {a b : List D} {cs : Cs} {Q : KD} {X : KX} : sAdd [.lst a, .lst b] cs Q X = (a.length + b.length ≤ lim ∧ Q (.lst (a ++ b)) cs) := rfl
theorem rgD_length {a b : Int} : (rgD a b).length = (b - a).toNat := by simp [rgD]
theorem rgD_get {a b : Int} {j : Nat} {x : D} (h : (rgD a b)[j]? = some x) : x = .int (a + j) := by
  unfold rgD at h
  rw [List.getElem?_map] at h
  cases e : (List.range (b - a).toNat)[j]? with
  | none =>
    rw [e] at h
    cases h
  | some i =>
    rw [e] at h
    have h2 : i = j := by
      have := List.getElem?_eq_some_iff.mp e
      obtain ⟨h3, h4⟩ := this
      rw [List.getElem_range] at h4
      exact h4.symm
    subst h2
    exact (Option.some.inj h).symm
/-- a counting loop whose body changes the state by an invariant -/
theorem rng1_inv {i : Nat} {body : Sl → Cs → Ends → Prop} {K : Ends} {σ : Sl} {cs : Cs} {b : Int} (I : Nat → Sl → Cs → Prop) (lo : -(2 ^ 62) ≤ b) (hi : b < 2 ^ 62) (h0 : I 0 σ cs)
    (hs : ∀ (j : Nat) σ cs, (j : Int) < b → I j σ cs → ∀ K', (∀ σ' cs', I (j + 1) σ' cs' → K'.nx σ' cs') → (∀ σ' cs', I (j + 1) σ' cs' → K'.ct σ' cs') → K'.bk = K.bk ∨ K'.bk = K.nx → K'.rt = K.rt → K'.ex = K.ex → body (σ.set i (some (.int j))) cs K')
    (hd : ∀ σ cs, I b.toNat σ cs → K.nx σ cs) : iRng1 [.int b] cs fun items grd => forL (.nm i) grd body K items σ cs := by
  refine ⟨lo, hi, forL_inv I _ 0 h0 (fun _ _ _ _ _ _ => trivial) (fun j x σ cs hj hI => ?_) (fun σ cs h => hd σ cs ?_)⟩
  · have e := rgD_get hj
    subst e
    have hj2 : j < (rgD 0 b).length := (List.getElem?_eq_some_iff.mp hj).1
    rw [rgD_length] at hj2
    rw [Nat.zero_add] at hI
    refine ⟨_, rfl, fun K' a1 a2 a3 a4 a5 => ?_⟩
    rw [show ((0 : Int) + (j : Int)) = (j : Int) by omega]
    rw [Nat.zero_add] at a1 a2
    exact hs j σ cs (by omega) hI K' a1 a2 (.inr a3) a4 a5
  · rw [Nat.zero_add, rgD_length, Int.sub_zero] at h
    exact h
theorem powOk_c {i j : Int} (h : 0 ≤ j ∧ j ≤ 1000000 ∧ i.natAbs < 2 ^ 64) : powOk i j := h
/-! ### the start of a draw -/
def c_start_1 : S := (.ret (.app sListM (.cons (.app sListOf (.cons (.app sCutScr (.cons (.v 0) .nil)) .nil)) (.cons (.c (.int 0)) (.cons (.c (.int 0)) (.cons (.app sAdd (.cons (.c (.int 9494)) (.cons (.app sMul (.cons (.c (.int 37)) (.cons (.app sLen (.cons (.app sCutScr (.cons (.v 0) .nil)) .nil)) .nil))) .nil))) .nil))))))
def c_start : S := (c_start_1)
@[simp] theorem sCutScr_e {cs : Cs} {Q : KD} {X : KX} : sCutScr [.scr] cs Q X = ∀ ns : List Int, ns.length ≤ 63 → (∀ n ∈ ns, n.natAbs < 2 ^ (2 ^ 20)) → Q (.lst (ns.map D.int)) cs := rfl
@[simp] theorem sListOf_e {x : D} {cs : Cs} {Q : KD} {X : KX} : sListOf [x] cs Q X = match getQ x cs with
    | some xs => Q (.lst xs) cs
    | none => False := rfl
theorem ok_start : okFn 1 c_start spStartU := by
  rintro ds cs Q X ⟨rfl, k⟩
  show wpS c_start_1 [some .scr] cs _
  rw [c_start_1]
  simp only [wpS, wpE, wpEs, getV, sCutScr_e]
  intro ns h1 h2
  simp only [sListOf_e, getQ_lst]
  intro ms h3 h4
  rw [sLen_e (by intro s e; cases e)]
  simp only [getQ_lst, sMul_i, sAdd_i, sListM_e, List.length_map]
  refine ⟨mulOk_r (by omega), show 4 ≤ 16777216 by decide, fun n hn => ?_⟩
  exact k n ns 0 0 _ hn ⟨h1, h2, by decide, by decide, by omega, by omega⟩
end G

/-! GEnd: from facts of the top to defs' promises; the law's end. -/
namespace G
open PySem PySem.Spec L2
/-- the law's promise -/
def spLaw : Spec := fun ds cs Q _ => ds = [.scr] ∧ ∀ cs', Q (.bl true) cs'
section
variable {P : Program} {w : World} {K : PySem.W.Frag} {mg : Str → Option Value} {base : Heap} {x qual : Str} {params : Arguments} {body : List Stmt} {scope : Scope} {f : Addr} {fd : FuncData} {ps ks : List Str} {k n : Nat} {sp : Spec} {ix : List Nat}
theorem fn_mk (FD : FunD K x qual params body scope [] [] f fd) (hm : mg x = some (.ref f)) (ok : FnOk P w K mg base (L2N.CX P w) k f fd ps (lift K mg sp))
    (hb : ∀ (kV doc pm : Value) (an : Option Addr) (cdv ct : Value) (us : List Value), us.length = ps.length → bindArgs (PySem.W.fnOf x qual params body scope .none kV doc pm an cdv ct) ⟨us, []⟩ = pure (ps.zip us)) : Fn P w K mg base x k ps.length sp :=
  ⟨f, fd, ps, rfl, hm, ok, FD.kp, FD.bindsN hb⟩
theorem fnOk_false : FnOk P w K mg base (L2N.CX P w) 0 f fd ps (lift K mg fun _ _ _ _ => False) :=
  ⟨fun vs H Q E ⟨_, _, _, _, _, _, _, _, h, _⟩ => h.elim, fun A outer s H args us vs Q E _ _ _ _ ⟨_, _, _, _, _, _, _, _, h, _⟩ => h.elim⟩
theorem fnk_mk (FD : FunD K x qual params body scope [] [] f fd) (hm : mg x = some (.ref f)) (ok : FnOk P w K mg base (L2N.CX P w) k f fd ps (lift K mg sp))
    (hb : ∀ (kV doc pm : Value) (an : Option Addr) (cdv ct : Value) (us ws : List Value), us.length = n → ws.length = ks.length → bindArgs (PySem.W.fnOf x qual params body scope .none kV doc pm an cdv ct) ⟨us, ks.zip ws⟩ = pure (ps.zip (permL ix (us ++ ws)))) : FnK P w K mg base x k n ks ix sp := by
  refine ⟨f, fd, ps, hm, ok, FD.kp, fun s us ws h1 h2 => ?_⟩
  obtain ⟨oc, od, dV, kV, doc, pm, an, cdv, ct, osl, rfl, lk, hcd, hD, hK⟩ := FD.ex
  rcases hD with ⟨_, rfl⟩ | ⟨e, _⟩
  · exact .of_eq (hb kV doc pm an cdv ct us ws h1 h2)
  · exact absurd rfl e
end
theorem two20 : (2 : Nat) ^ 20 = 1048576 := by decide
theorem bits_lt {n : Int} (h : Builtin.Int.intBits n ≤ 1048576) : n.natAbs < 2 ^ (2 ^ 20) := by
  unfold Builtin.Int.intBits at h
  by_cases e : n = 0
  · subst e
    exact Nat.two_pow_pos _
  · have e2 : (n == 0) = false := by simp [e]
    rw [e2] at h
    have h3 : n.natAbs.log2 + 1 ≤ 1048576 := h
    have h4 : n.natAbs.log2 < 2 ^ 20 := by
        omega
    exact (Nat.log2_lt (by omega)).mp h4
/-- what is known of the heap at the start: all but the tables -/
def noT (H : Hp) : Hp := fun a => match H a with
  | some (.tbl _) => none
  | o => o
theorem noT_eq {H : Hp} {a : Addr} {o : HO} (h : H a = some o) (n : ∀ q, o ≠ .tbl q) : noT H a = some o := by
  unfold noT
  rw [h]
  cases o <;> first | rfl | exact absurd rfl (n _)
theorem of_noT {H : Hp} {a : Addr} {o : HO} (h : noT H a = some o) : H a = some o ∧ ∀ q, o ≠ .tbl q := by
  unfold noT at h
  cases e : H a with
  | none => rw [e] at h; cases h
  | some u =>
    rw [e] at h
    cases u <;> first | (cases h; done) | (cases h; exact ⟨rfl, fun q z => by cases z⟩)
theorem noT_l {K : PySem.W.Frag} {H : Hp} {a : Addr} {xs : List V} (h : SqL K H a xs) : SqL K (noT H) a xs := by
  rcases h with (h | ⟨o, h⟩) | h
  · exact .inl (.inl (noT_eq h fun q z => by cases z))
  · exact .inl (.inr ⟨o, noT_eq h fun q z => by cases z⟩)
  · exact .inr h
theorem law_start {K : PySem.W.Frag} {mg : Str → Option Value} {H : Hp} {a : Addr} {ns : List Int} (hl : ns.length ≤ 63) (hb : ∀ z ∈ ns, Builtin.Int.intBits z ≤ 1048576) (hT : ∀ p ∈ tabsOf K, H p.1 = some (.tbl #[])) (hS : SqL K H a (ns.map V.int)) : lift K mg spLaw [.ref a] H (fun v _ => v = .bl true) fun _ _ _ => False := by
  have R : Rl K ⟨noT H, fun _ => none, 0⟩ (fun _ => none) (fun _ => none) H := by
    constructor
    · exact fun a o e => (of_noT e).1
    · intro a o e
      cases e
    · exact fun _ _ _ => rfl
    · intro n m a e
      cases e
    · intro n o e
      cases e
    · intro n a e
      cases e
    · exact fun _ _ => rfl
    · intro n a e
      cases e
    · intro a o e
      cases e
    · exact fun p hp => ⟨#[], hT p hp, True.intro, fun pos cv hc => by
        have z : codeAmong pos [] = some cv := hc
        simp [codeAmong] at z⟩
    · exact fun a q e => (of_noT e).2 q rfl
  have r : RpL K ⟨noT H, fun _ => none, 0⟩ [.scr] [.ref a] := ⟨.ref a, [], rfl, ⟨a, ns, rfl, noT_l hS, hl, fun z hz => bits_lt (hb z hz)⟩, rfl⟩
  refine ⟨_, _, _, [.scr], fun d _ => d = .bl true, fun _ _ => False, R, r, ⟨rfl, fun _ => rfl⟩, ?_, ?_⟩
  · intro wd' d cs v H' _ _ r e
    subst e
    exact r
  · intro _ _ _ _ _ _ _ _ _ z
    exact z.elim
/-- the tables that K leaves out are those of tf -/
def tabsB (tf : List He.Defn) (K : PySem.W.Frag) : Bool := (tabsOf K).all fun p => tf.any fun d => (He.cT K d).2 == p.1
theorem tabsB_ok {tf : List He.Defn} {K : PySem.W.Frag} (h : tabsB tf K = true) {p : Addr × Str} (hp : p ∈ tabsOf K) : ∃ d ∈ tf, (He.cT K d).2 = p.1 := by
  obtain ⟨d, hd, e⟩ := List.any_eq_true.mp (List.all_eq_true.mp h p hp)
  exact ⟨d, hd, beq_iff_eq.mp e⟩
open PyProof.Rows in
theorem walkG {l : PySem.W.OpenLaw} {k : Nat} {q : Program} {loose : List Str} {XP : (Str → Option Value) → Heap → Prop} {d : DefRec} {x : Str} {n : Nat} {fa : List He.Fa} {fn : List He.DefD} {ts : List He.Tab} {tf : List He.Defn} {ex : PySem.W.Frag → Bool}
    (hn : l.most = some 63) (hdf : d.params.defaults = []) (hr : Room k callerA) (hex : ∀ K, ex K = true → tabsB tf K = true)
    (F : ∀ (w : World) (mg : Str → Option Value) (f : Addr) (h : Heap) (K : PySem.W.Frag), K.In h → He.SaysX fa fn ts tf ex w h K → h.Ns mainGlobals mg → mg d.name = some (.ref f) →
      ∃ fd : FuncData, (∀ (s : Shared) (u : Value), BindsTo s fd ⟨[u], []⟩ [(x, u)]) ∧
        ∀ base : Heap, K.In base → base.Ns mainGlobals mg → (∀ p ∈ tf.map (He.cT K), LamX.TabB base mg p.1 p.2) → FnOk l.prog w K mg base (L2N.CX l.prog w) k f fd [x] (lift K mg spLaw)) :
    PySem.W.WalkO q loose XP (He.hookX n fa fn ts tf ex).says l.row.toRowW d [] (fun f vs => PySem.call f vs) := by
  refine LamX.walk_ofTsE (x := x) (n := 63) (CX := fun w => L2N.CX l.prog w) hn (by decide) hdf hr (fun w mg f h Y G hmg => ?_) (fun w H s e s' z => ?_)
  · obtain ⟨K, KX, S⟩ := Y
    obtain ⟨fd, hb, hF⟩ := F w mg f h K KX S G hmg
    refine ⟨K, KX, fd, tf.map (He.cT K), lift K mg spLaw, fun p hp => ?_, fun p hp => ?_, fun p hp => ?_, hb, fun H a ns hlen hbits hT hS => ?_, hF⟩
    · obtain ⟨t, ht, e⟩ := List.mem_map.mp hp
      rw [← e]
      exact S.empty t ht
    · obtain ⟨t, ht, e⟩ := List.mem_map.mp hp
      rw [← e]
      exact S.out t ht
    · obtain ⟨t, ht, e⟩ := List.mem_map.mp hp
      rw [← e]
      exact PySem.W.codeHd_of_K KX (S.hd t ht)
    · refine law_start hlen hbits (fun p hp => ?_) hS
      obtain ⟨t, ht, e⟩ := tabsB_ok (hex K S.more) hp
      rw [← e]
      exact hT _ (List.mem_map.mpr ⟨t, ht, rfl⟩)
  · obtain ⟨_, _, _, _, _, _, _, _, _, _, _, _, z⟩ := z
    exact z
end G

/-! GMore: slices, reversed, repeated, sorted lists; what is not reached. -/
namespace G
open PySem PySem.Spec L2
open Evl (Ex)
def cutD (xs : List D) (lo hi : Option Int) : List D := (xs.drop (sIxAt xs.length 0 lo)).take (sIxAt xs.length xs.length hi - sIxAt xs.length 0 lo)
def sSl (lo hi : Option Int) (x : D) (cs : Cs) (Q : KD) : Prop := match x with
  | .tup xs => ¬ (sIxAt xs.length 0 lo = 0 ∧ sIxAt xs.length xs.length hi = xs.length) ∧ Q (.tup (cutD xs lo hi)) cs
  | x => match getL x cs with
    | some xs => Q (.lst (cutD xs lo hi)) cs
    | none => False
def sCutHi : Spec := fun ds cs Q _ => match ds with
  | [x, .int i] => sSl none (some i) x cs Q
  | _ => False
def sCutLo : Spec := fun ds cs Q _ => match ds with
  | [x, .int i] => sSl (some i) none x cs Q
  | _ => False
def sCut : Spec := fun ds cs Q _ => match ds with
  | [x, .int i, .int j] => sSl (some i) (some j) x cs Q
  | _ => False
def sIntId : Spec := fun ds cs Q _ => match ds with
  | [.int i] => Q (.int i) cs
  | _ => False
def sRev : Spec := fun ds cs Q _ => match ds with
  | [x] => match getL x cs with
    | some xs => Q (.lst xs.reverse) cs
    | none => False
  | _ => False
def sSorted : Spec := fun ds cs Q _ => match ds with
  | [x] => match getL x cs with
    | some xs => ∃ ns : List Int, xs = ns.map D.int ∧ ∀ ns' : List Int, ns'.Perm ns → ns'.Pairwise (· ≤ ·) → Q (.lst (ns'.map D.int)) cs
    | none => False
  | _ => False
theorem RpL.reverse {K : PySem.W.Frag} {wd : Wd} : ∀ {ds : List D} {vs : List V}, RpL K wd ds vs → RpL K wd ds.reverse vs.reverse
  | [], vs, h => by
    have e : vs = [] := h
    subst e
    exact rfl
  | d :: ds, vs, h => by
    obtain ⟨v, r, e, a, b⟩ := h
    subst e
    rw [List.reverse_cons, List.reverse_cons]
    exact (RpL.reverse b).append ⟨v, [], rfl, a, rfl⟩
section
variable {X : Cx} {W : WX} {pos p1 p2 p3 p : Pos} {a b c e : Expr} {ca cb cc : E} {K : PySem.W.Frag}
theorem cut_rp {wd : Wd} {ds : List D} {vs : List V} (r : RpL K wd ds vs) (lo hi : Option Int) : RpL K wd (cutD ds lo hi) (cutV vs lo hi) := by
  have e : ∀ (n d : Nat) (o : Option Int), sIxAt n d o = HT.sIx n d o := fun n d o => by cases o <;> rfl
  unfold cutD cutV
  rw [r.length, e, e]
  exact (r.drop _).take _
theorem ref_sl {wd : Wd} {F H : Hp} {cs : Cs} {x : D} {v : V} {lo hi : Option Int} {P : KD} {Q : VK} (R : Rl K wd F cs H) (rv : Rp K wd x v) (h : sSl lo hi x cs P) (q : QOk K wd F P Q) : rSlL K v lo hi H Q ∨ rSlT K v lo hi H Q := by
  have byL : (match getL x cs with
      | some xs => P (.lst (cutD xs lo hi)) cs
      | none => False) → rSlL K v lo hi H Q := fun h => by
    cases ex : G.getL x cs with
    | none =>
      rw [ex] at h
      exact h.elim
    | some xs =>
      rw [ex] at h
      obtain ⟨a, ws, ev, hs, r⟩ := R.getL rv ex
      refine ⟨a, ws, ev, SqL.of hs, fun p hp => ?_⟩
      obtain ⟨wd2, l2, R2, r2⟩ := R.lst hp (cut_rp r lo hi)
      exact q wd2 _ cs _ _ l2 R2 r2 h
  cases x with
  | tup xs =>
    obtain ⟨a, ws, ev, hs, r⟩ := rv
    have e : ∀ (n d : Nat) (o : Option Int), sIxAt n d o = HT.sIx n d o := fun n d o => by cases o <;> rfl
    refine .inr ⟨a, ws, ev, SqT.of (R.b _ _ hs), ?_, fun p hp => ?_⟩
    · have h1 := h.1
      rw [e, e, ← r.length] at h1
      exact h1
    · obtain ⟨wd2, l2, R2, r2⟩ := R.tup hp (cut_rp r lo hi)
      exact q wd2 _ cs _ _ l2 R2 r2 h.2
  | lst xs => exact .inl (byL h)
  | ref n => exact .inl (byL h)
  | _ => exact h.elim
theorem sCutHi_inv {d e : D} {cs : Cs} {Q : KD} {PX : KX} (h : sCutHi [d, e] cs Q PX) : ∃ i, e = .int i ∧ sSl none (some i) d cs Q := by
  unfold sCutHi at h
  split at h
  · rename_i x i ee
    cases ee
    exact ⟨_, rfl, h⟩
  · exact h.elim
theorem sCutLo_inv {d e : D} {cs : Cs} {Q : KD} {PX : KX} (h : sCutLo [d, e] cs Q PX) : ∃ i, e = .int i ∧ sSl (some i) none d cs Q := by
  unfold sCutLo at h
  split at h
  · rename_i x i ee
    cases ee
    exact ⟨_, rfl, h⟩
  · exact h.elim
theorem sCut_inv {d e f : D} {cs : Cs} {Q : KD} {PX : KX} (h : sCut [d, e, f] cs Q PX) : ∃ i j, e = .int i ∧ f = .int j ∧ sSl (some i) (some j) d cs Q := by
  unfold sCut at h
  split at h
  · rename_i x i j ee
    cases ee
    exact ⟨_, _, rfl, rfl, h⟩
  · exact h.elim
theorem j_cutHi (ha : JE X W a ca) (hb : JE X W b cb) : JE X W (.Subscript a (.Slice none (some b) none p2) pos) (.app sCutHi (.cons ca (.cons cb .nil))) := by
  obtain ⟨ta, q1, r1⟩ := ha
  obtain ⟨tb, q2, r2⟩ := hb
  refine ⟨_, pe_slice (sl_list.or sl_tup) q1 po_none (po_some q2), fun wd F τ cs σ H P PX Q R rs h q x => ?_⟩
  refine r1 wd F τ cs σ H _ PX _ R rs h (fun wd1 d c1 v H1 l1 R1 rv h1 => ?_) x
  refine r2 wd1 F τ c1 σ H1 _ PX _ R1 (rs.mono l1) h1 (fun wd2 e c2 u H2 l2 R2 ru h2 => ?_) (x.mono l1)
  obtain ⟨i, ei, h3⟩ := sCutHi_inv (PX := PX) h2
  subst ei
  exact ⟨i, ru, ref_sl R2 (rv.mono l2) h3 (q.mono (l1.trans l2))⟩
theorem j_cutLo (ha : JE X W a ca) (hb : JE X W b cb) : JE X W (.Subscript a (.Slice (some b) none none p2) pos) (.app sCutLo (.cons ca (.cons cb .nil))) := by
  obtain ⟨ta, q1, r1⟩ := ha
  obtain ⟨tb, q2, r2⟩ := hb
  refine ⟨_, pe_slice (sl_list.or sl_tup) q1 (po_some q2) po_none, fun wd F τ cs σ H P PX Q R rs h q x => ?_⟩
  refine r1 wd F τ cs σ H _ PX _ R rs h (fun wd1 d c1 v H1 l1 R1 rv h1 => ?_) x
  refine r2 wd1 F τ c1 σ H1 _ PX _ R1 (rs.mono l1) h1 (fun wd2 e c2 u H2 l2 R2 ru h2 => ?_) (x.mono l1)
  obtain ⟨i, ei, h3⟩ := sCutLo_inv (PX := PX) h2
  subst ei
  exact ⟨i, ru, ref_sl R2 (rv.mono l2) h3 (q.mono (l1.trans l2))⟩
theorem j_cut (ha : JE X W a ca) (hb : JE X W b cb) (hc : JE X W c cc) : JE X W (.Subscript a (.Slice (some b) (some c) none p2) pos) (.app sCut (.cons ca (.cons (.app sIntId (.cons cb .nil)) (.cons cc .nil)))) := by
  obtain ⟨ta, q1, r1⟩ := ha
  obtain ⟨tb, q2, r2⟩ := hb
  obtain ⟨tc, q3, r3⟩ := hc
  refine ⟨_, pe_slice (sl_list.or sl_tup) q1 (po_some q2) (po_some q3), fun wd F τ cs σ H P PX Q R rs h q x => ?_⟩
  refine r1 wd F τ cs σ H _ PX _ R rs h (fun wd1 d c1 v H1 l1 R1 rv h1 => ?_) x
  refine r2 wd1 F τ c1 σ H1 _ PX _ R1 (rs.mono l1) h1 (fun wd2 e c2 u H2 l2 R2 ru h2 => ?_) (x.mono l1)
  have hmono : RS X.K wd2 τ σ := (rs.mono l1).mono l2
  cases e with
  | int i =>
    have h2 : wpEs (.cons cc .nil) τ c2 (fun ds c3 => sCut (d :: .int i :: ds) c3 P PX) PX := h2
    refine ⟨i, ru, ?_⟩
    refine r3 wd2 F τ c2 σ H2 _ PX _ R2 hmono h2 (fun wd3 f c3 w H3 l3 R3 rw_ h3 => ?_) (x.mono (l1.trans l2))
    obtain ⟨i', j, ei, ej, h4⟩ := sCut_inv (PX := PX) h3
    cases ei
    subst ej
    exact ⟨j, rw_, ref_sl R3 (rv.mono (l2.trans l3)) h4 (q.mono ((l1.trans l2).trans l3))⟩
  | _ => exact h2.elim
theorem j_rev {k : Nat} (ha : JE X W a ca) : JE X W (.Subscript a (.Slice none none (some (.UnaryOp .USub (.Constant (.int 1) k p1) p2)) p3) pos) (.app sRev (.cons ca .nil)) := by
  obtain ⟨ta, q1, r1⟩ := ha
  refine ⟨_, pe_revL q1, fun wd F τ cs σ H P PX Q R rs h q x => ?_⟩
  refine r1 wd F τ cs σ H _ PX _ R rs h (fun wd1 d c1 v H1 l1 R1 rv h1 => ?_) x
  have h1 : (match G.getL d c1 with
    | some xs => P (.lst xs.reverse) c1
    | none => False) := h1
  cases ex : G.getL d c1 with
  | none =>
    rw [ex] at h1
    exact h1.elim
  | some xs =>
    rw [ex] at h1
    obtain ⟨a, ws, ev, hs, r⟩ := R1.getL rv ex
    refine ⟨a, ws, ev, SqL.of hs, fun p hp => ?_⟩
    obtain ⟨wd2, l2, R2, r2⟩ := R1.lst hp r.reverse
    exact q wd2 _ c1 _ _ (l1.trans l2) R2 r2 h1
end
end G

/-! GEnum: enumerate over lists and tuples. -/
namespace G
open PySem PySem.Spec L2
open Evl (Ex)
abbrev tIt (l : Addr) : Obj := { cls := .type "tuple_iterator", data := .fields #[.ref l, .int 0 0] }
abbrev eOb (i : Addr) : Obj := { cls := .type "enumerate", data := .fields #[.none, .bool false, .ref i, rawInt 0, .none, .none] }
open AutoSeq1 (wpAny_loadPart') in
theorem new_enumT (l : Addr) (items : Array Value) (n : Nat) (dct : Option Addr) (sl : Array (Option Value)) :
    Meets (Builtin.«enumerate.__new__» ⟨[.type "enumerate", .ref l], []⟩) (fun _ R s => s.heap.get? l = some ⟨.type "tuple", dct, .seq items n, sl⟩ ∧
      R (.ok (.ret (.ref (s.heap.push (tIt l)).objs.size))) { s with heap := (s.heap.push (tIt l)).push (eOb s.heap.objs.size) }) := by
  refine .of_wp fun prog w A R s h => ?_
  obtain ⟨hp, gs, dr, tk, os⟩ := s
  obtain ⟨hl, h⟩ := h
  have sub := sub_enumerate
  have isT : Heap.IsTuple (Shared.heap ⟨hp, gs, dr, tk, os⟩) l items := ⟨_, hl, rfl, n, rfl⟩
  wp_walk using wpAny_loadPart' hl
  refine wpAny_stack_any fun st => wpAny_pure ?_
  split
  · rename_i c _ _ _ _ _
    cases (c == Value.type "enumerate") <;> (wp_walk using wpAny_loadPart' hl, wpAny_pyIter_tuple isT; exact ⟨_, rfl, h⟩)
  · wp_walk using wpAny_loadPart' hl, wpAny_pyIter_tuple isT
    exact ⟨_, rfl, h⟩
theorem call_enumT {prog : Program} {w : World} {A : Around} {E : Value → Shared → Prop} {s : Shared} {l : Addr} {items : Array Value} {Q : Value → Shared → Prop} (hT : s.heap.IsTuple l items)
    (h : ∀ h', IsEnum h' (s.heap.objs.size + 1) s.heap.objs.size 0 .none → h'.IsTupleIter s.heap.objs.size l 0 → (∀ b o, s.heap.get? b = some o → h'.get? b = some o) → Q (.ref (s.heap.objs.size + 1)) { s with heap := h' }) :
    wpAny (model prog w) A (PySem.call (.type "enumerate") [.ref l]) Q E s := by
  obtain ⟨⟨c, dct, dt, sl⟩, hl, hc, n, hd⟩ := hT
  have hc : c = .type "tuple" := hc
  have hd : dt = .seq items n := hd
  subst hc
  subst hd
  refine callType_new F.called_enumerate (by decide) (F.typeCall_enumerate_1 _) (F.newCall_enumerate_1 _) (fun obj => F.args_object_init_2 obj _) F.entry_enumerate_new (new_enumT l items n dct sl) ⟨hl, ?_⟩
  have hz : (s.heap.push (tIt l)).objs.size = s.heap.objs.size + 1 := Heap.size_push ..
  show _ ∧ _
  rw [hz]
  have he : IsEnum ((s.heap.push (tIt l)).push (eOb s.heap.objs.size)) (s.heap.objs.size + 1) s.heap.objs.size 0 .none := by
    have q := Heap.get?_push_size (s.heap.push (tIt l)) (o := eOb s.heap.objs.size) rfl
    rw [hz] at q
    exact q
  exact ⟨⟨_, he, rfl⟩, h _ he ⟨_, Heap.get?_push_of_some _ (Heap.get?_push_size _ rfl), rfl, rfl⟩ fun b o x => Heap.get?_push_of_some _ (Heap.get?_push_of_some _ x)⟩
/-- the tuple at a, each item in a new pair -/
def IteT (K : PySem.W.Frag) (a : Addr) : It :=
  ⟨fun i H => ∃ (xs : List V) (x : V), SqT K H a xs ∧ xs[i]? = some x, fun i H v H' => ∃ T x, v = .ref T ∧ H T = none ∧ H' = upd H T (.tup [.int (i : Nat), x]) ∧ ∀ xs, SqT K H a xs → xs[i]? = some x, fun i H => ∃ xs : List V, SqT K H a xs ∧ i = xs.length⟩
theorem turn_enumT {P : Program} {w : World} {K : PySem.W.Frag} {elts : List Expr} {kk : Nat} {tpos : Pos} (a e it : Addr) (hai : a ≠ it) (hae : a ≠ e) :
    Turn P w K (.Tuple elts kk tpos) (IteT K a) [e, it] e (fun i h => (∃ old, IsEnum h e it ((i : Nat) : Int) old) ∧ h.IsTupleIter it a i ∧ e ≠ it) := by
  have two : ∀ b, b ∈ [e, it] → b = e ∨ b = it := fun b hb => by simpa using hb
  refine ⟨by simp, ?obj, ?keep, ?item, ?done, ?self⟩
  case obj =>
    intro i h st b hb
    obtain ⟨⟨old, he⟩, ⟨o, ho, hc, hd⟩, _⟩ := st
    rcases two b hb with z | z
    · rw [z]
      exact ⟨_, he, fun v q => nomatch q⟩
    · rw [z]
      exact ⟨o, ho, fun v q => by rw [hd] at q; cases q⟩
  case keep =>
    intro i h h' st k
    obtain ⟨⟨old, he⟩, hi, hne⟩ := st
    exact ⟨⟨old, k e (by simp) _ he⟩, hi.at fun o q => k it (by simp) o q, hne⟩
  case self =>
    intro A i s Q E st h
    obtain ⟨⟨_, he⟩, _⟩ := st
    exact wpAny_pyIter_enum he h
  case item =>
    intro X hP hw hK hc i pins s σ H E I hf st hg
    subst hP hw hK
    obtain ⟨⟨old, he⟩, hit, hne⟩ := st
    obtain ⟨xs, x, hq, hx⟩ := hg
    obtain ⟨its, rv, p, hz⟩ := I.tuple hq
    obtain ⟨u, hu, ru⟩ := rv.get hx
    have hel : e < s.heap.objs.size := Heap.lt_size he
    have hil : it < s.heap.objs.size := by obtain ⟨_, q, _⟩ := hit; exact Heap.lt_size q
    have hh : X.A.in1.handled = none := by
      have := I.ok.hd hc
      first | exact this | simpa using this
    have D := Draws.tuple (prog := X.prog) (w := X.w) (A := X.A.in1) hh it a hai its.toArray
    refine wpAny_pyNext_enum_itemD D he ⟨hit, show s.heap.IsTuple a its.toArray from p⟩ (by rw [List.size_toArray]; exact (List.getElem?_eq_some_iff.mp hu).1) hne (by simp [hne, Ne.symm hae]) fun y h' tk hy ho hst hT hsz hk => ?_
    have hy : y = u := by
      have : some y = some u := by rw [← hu, ← hy]; simp
      exact Option.some.inj this
    subst hy
    refine ⟨_, rfl, wpAny_letOwnedTupleGo_enum (s := { s with heap := h', toks := tk + 1 }) ho fun h2 he2 sb => ?_⟩
    have hT2 : h2.get? s.heap.objs.size = some { cls := .type "tuple", data := .seq #[.int i tk, y] } := (sb.2 _ (Nat.ne_of_gt hel)).trans hT
    have new : ObjOk X.prog X.w (upd H s.heap.objs.size (.tup [.int (i : Nat), x])) h2 s.heap.objs.size (.tup [.int (i : Nat), x]) :=
      ⟨by show 2 ≤ sizeLine; decide, [.int i tk, y], .cons ⟨_, rfl⟩ (.cons ru .nil), ⟨_, hT2, rfl, _, rfl⟩⟩
    have fin : ∀ b, b ∈ [e, it] → b < s.heap.objs.size := fun b hb => by
      rcases two b hb with z | z
      · rw [z]; exact hel
      · rw [z]; exact hil
    have I1 : Inv X pins σ (upd H s.heap.objs.size (.tup [.int (i : Nat), x])) { s with heap := h2, toks := tk + 1 } :=
      I.turnedNew (ch := [e, it]) (fun b ob hb q => (sb.2 b (fun z => hb (by simp [z]))).trans (hk b ob (fun z => hb (by simp [z])) (fun z => hb (by simp [z])) q)) hf (Nat.le_refl _) new
    refine ⟨.ref s.heap.objs.size, _, I1, rfl, ⟨_, x, rfl, I.hok.fresh (Nat.le_refl _), rfl, fun ys hy => by rw [I.tuple_inj hy hq]; exact hx⟩, ⟨⟨y, ?_⟩, hst.1.at fun o q => (sb.2 it (Ne.symm hne)).trans q, hne⟩, fun b hb => ?_⟩
    · have e1 : ((i + 1 : Nat) : Int) = (i : Int) + 1 := by omega
      rw [e1]
      exact he2
    · rw [upd_ne (Nat.ne_of_lt (fin b hb))]
      exact (hf b hb).1
  case done =>
    intro X hP hw hK hc i pins s σ H E I hf st hg
    subst hP hw hK
    obtain ⟨⟨old, he⟩, hit, hne⟩ := st
    obtain ⟨xs, hq, hx⟩ := hg
    obtain ⟨its, rv, p, hz⟩ := I.tuple hq
    obtain ⟨f0, f1, f2, f3, f4, f5⟩ := hf it (by simp)
    have hh : X.A.in1.handled = none := by
      have := I.ok.hd hc
      first | exact this | simpa using this
    have D := Draws.tuple (prog := X.prog) (w := X.w) (A := X.A.in1) hh it a hai its.toArray
    have en : i = its.toArray.size := by rw [List.size_toArray, ← rv.length]; exact hx
    refine wpAny_pyNext_enum_endD D he ⟨by rw [← en]; exact hit, show s.heap.IsTuple a its.toArray from p⟩ fun h' eb => ⟨rfl, I.turned (t' := s.toks) (fun b o hb q => eb b o hb q) f0 f1 f3 f4 f5⟩
end G
namespace G
open PySem PySem.Spec L2
open Evl (Ex)
section
variable {X : Cx} {W : WX} {pos p tpos : Pos} {e : Expr} {ce : E} {elts : List Expr} {kk : Nat}
def iEnumA (K : PySem.W.Frag) (ta : TA) : TI := fun σ H R => ta σ H fun vs H1 => ∃ a, vs = [.ref a] ∧ (((∃ xs, SqL K H1 a xs) ∧ R (Ite K a) H1) ∨ ((∃ xs, SqT K H1 a xs) ∧ R (IteT K a) H1))
theorem pi_enumA {ta : TA} (hg : Gl X "enumerate") (hm : X.mg "enumerate" = none) (ha : PA X [e] ta) (hs : starEach [e] X.env = [(false, eval e X.env)] := by rfl) : PI X (.Tuple elts kk tpos) (.Call (.Name "enumerate" p) [e] [] pos) (iEnumA X.K ta) := by
  refine ⟨fun pins s σ H R I h => ?_⟩
  refine PyProof.Rows.Call_ (ld_blt I hg hm PyProof.Rows.boot_enumerate (PyProof.Rows.callWith_type1 (thn (ha.run pos pins s σ H _ I h) fun us s1 ⟨vs, H1, I1, r1, q1⟩ => ?_) hs rfl))
  obtain ⟨a, ex, q⟩ := q1
  subst ex
  have fresh : ∀ b, b ∈ [s1.heap.objs.size + 1, s1.heap.objs.size] → FpOk X pins H1 b := fun b hb => by
    have hle : s1.heap.objs.size ≤ b := by
      rcases (show b = s1.heap.objs.size + 1 ∨ b = s1.heap.objs.size by simpa using hb) with z | z <;> omega
    exact I1.fpOk hle (I1.hok.fresh hle)
  cases r1 with
  | cons r rr =>
    cases rr
    cases r
    rcases q with ⟨⟨xs, hq⟩, q⟩ | ⟨⟨xs, hq⟩, q⟩
    · obtain ⟨its, rv, pl, hz⟩ := I1.list hq
      refine call_enumerate_list pl.isList fun h' he hit hsz hk => wpAny_pyIter_enum he ?_
      exact ⟨s1.heap.objs.size + 1, [s1.heap.objs.size + 1, s1.heap.objs.size], _, _, H1, rfl, I1.kept (t' := s1.toks) hk, turn_enum a _ _, ⟨⟨.none, he⟩, hit, Nat.succ_ne_self _⟩, fresh, q⟩
    · obtain ⟨its, rv, pl, hz⟩ := I1.tuple hq
      have hT : s1.heap.IsTuple a its.toArray := pl
      have hlt : a < s1.heap.objs.size := by
        obtain ⟨o, ho, _⟩ := hT
        exact Heap.lt_size ho
      refine call_enumT hT fun h' he hit hk => wpAny_pyIter_enum he ?_
      exact ⟨s1.heap.objs.size + 1, [s1.heap.objs.size + 1, s1.heap.objs.size], _, _, H1, rfl, I1.kept (t' := s1.toks) hk, turn_enumT a _ _ (Nat.ne_of_lt hlt) (Nat.ne_of_lt (Nat.lt_succ_of_lt hlt)), ⟨⟨.none, he⟩, hit, Nat.succ_ne_self _⟩, fresh, q⟩
theorem enumD_get : ∀ {xs : List D} {n : Int} {i : Nat} {d : D}, (enumD n xs)[i]? = some d → ∃ x, xs[i]? = some x ∧ d = .tup [.int (n + i), x]
  | [], _, _, _, h => by simp [enumD] at h
  | x :: xs, n, 0, d, h => by
    simp [enumD] at h
    exact ⟨x, rfl, by rw [← h]; simp⟩
  | x :: xs, n, i + 1, d, h => by
    obtain ⟨y, h1, h2⟩ := enumD_get (xs := xs) (n := n + 1) (i := i) (d := d) (by simpa [enumD] using h)
    refine ⟨y, by simpa using h1, ?_⟩
    rw [h2, show n + 1 + (i : Int) = n + ((i + 1 : Nat) : Int) by omega]
theorem enumD_length : ∀ (xs : List D) (n : Int), (enumD n xs).length = xs.length
  | [], _ => rfl
  | x :: xs, n => by simp [enumD, enumD_length xs]
theorem pair_new {K : PySem.W.Frag} {wd : Wd} {F H : Hp} {cs : Cs} (R : Rl K wd F cs H) {T : Addr} (hT : H T = none) {i : Nat} {x : D} {v : V} (r : Rp K wd x v) : ∃ wd', wd.le wd' ∧ Rl K wd' F cs (upd H T (.tup [.int (i : Nat), v])) ∧ Rp K wd' (.tup [.int (0 + (i : Nat)), x]) (.ref T) := by
  obtain ⟨wd', l, R', q⟩ := R.tup hT (ds := [.int (0 + (i : Nat)), x]) (vs := [.int (i : Nat), v]) ⟨_, _, rfl, by rw [Int.zero_add]; exact rfl, _, _, rfl, r, rfl⟩
  exact ⟨wd', l, R', q⟩
theorem itOk_enumL {wd : Wd} {F : Hp} {xs : List D} {grd : Cs → Prop} {a : Addr} (h : ∀ wd' F' cs' H', wd.le wd' → Rl X.K wd' F' cs' H' → grd cs' → ∃ vs, H' a = some (.lst vs) ∧ RpL X.K wd' xs vs) : ItOk X wd F (enumD 0 xs) grd (Ite X.K a) := by
  refine ⟨fun wd' F' cs H i d l R g hd => ?_, fun wd' F' cs H l R g => ?_⟩
  · obtain ⟨x, hx, e⟩ := enumD_get hd
    subst e
    obtain ⟨vs, hv, r⟩ := h wd' F' cs H l R g
    obtain ⟨v, h1, h2⟩ := r.get hx
    refine ⟨⟨vs, v, SqL.of hv, h1⟩, fun y H' ⟨T, z, ey, hT, eH, hz⟩ => ?_⟩
    subst ey eH
    have q := hz vs (SqL.of hv)
    rw [h1] at q
    cases q
    exact pair_new R hT h2
  · obtain ⟨vs, hv, r⟩ := h wd' F' cs H l R g
    exact ⟨vs, SqL.of hv, by rw [r.length, enumD_length]; exact Nat.le_refl _⟩
theorem itOk_enumT {wd : Wd} {F : Hp} {xs : List D} {grd : Cs → Prop} {a : Addr} (h : ∀ wd' F' cs' H', wd.le wd' → Rl X.K wd' F' cs' H' → ∃ vs, SqT X.K H' a vs ∧ RpL X.K wd' xs vs) : ItOk X wd F (enumD 0 xs) grd (IteT X.K a) := by
  refine ⟨fun wd' F' cs H i d l R g hd => ?_, fun wd' F' cs H l R g => ?_⟩
  · obtain ⟨x, hx, e⟩ := enumD_get hd
    subst e
    obtain ⟨vs, hv, r⟩ := h wd' F' cs H l R
    obtain ⟨v, h1, h2⟩ := r.get hx
    refine ⟨⟨vs, v, hv, h1⟩, fun y H' ⟨T, z, ey, hT, eH, hz⟩ => ?_⟩
    subst ey eH
    have q := hz vs hv
    rw [h1] at q
    cases q
    exact pair_new R hT h2
  · obtain ⟨vs, hv, r⟩ := h wd' F' cs H l R
    exact ⟨vs, hv, by rw [r.length, enumD_length]⟩
theorem ji_enum (hg : Gl X "enumerate") (hm : X.mg "enumerate" = none) (h : JE X W e ce) (hs : starEach [e] X.env = [(false, eval e X.env)] := by rfl) (h1 : starEach [e] X.env = (false, eval e X.env) :: starEach [] X.env := by rfl) : JI X W (.Tuple elts kk tpos) (.Call (.Name "enumerate" p) [e] [] pos) iEnum (.cons ce .nil) := by
  obtain ⟨ta, p1, r1⟩ := ja_cons h ja_nil h1
  refine ⟨_, pi_enumA hg hm p1 hs, fun wd F τ cs σ H R' PX Q R rs h q x => ?_⟩
  refine r1 wd F τ cs σ H _ PX _ R rs h (fun wd1 ds c1 vs H1 l1 R1 rv h1 => ?_) x
  obtain ⟨d, ed, h2⟩ : ∃ d, ds = [d] ∧ (match getQ d c1 with
      | some xs => R' (enumD 0 xs) (grdL d c1) c1
      | none => False) := by
    unfold iEnum at h1
    split at h1
    · exact ⟨_, rfl, h1⟩
    · exact h1.elim
  subst ed
  obtain ⟨v, ev, rd⟩ := rv.one
  subst ev
  cases eq : getQ d c1 with
  | none =>
    rw [eq] at h2
    exact h2.elim
  | some xs =>
    rw [eq] at h2
    rcases getQ_cases eq with ed | el
    · subst ed
      obtain ⟨a, ev, st⟩ := R1.staysT rd
      subst ev
      obtain ⟨vs, hv, _⟩ := st wd1 F c1 H1 (Wd.le.refl _) R1
      exact ⟨a, rfl, .inr ⟨⟨vs, hv⟩, q wd1 _ _ c1 _ H1 l1 R1 (itOk_enumT st) h2⟩⟩
    · obtain ⟨a, ev, st⟩ := R1.staysL rd el
      subst ev
      obtain ⟨vs, hv, _⟩ := st wd1 F c1 H1 (Wd.le.refl _) R1 (by unfold grdL; split <;> trivial)
      exact ⟨a, rfl, .inl ⟨⟨vs, SqL.of hv⟩, q wd1 _ _ c1 _ H1 l1 R1 (itOk_enumL st) h2⟩⟩
end
end G

/-! GSet: set(list of ints), sorted. -/
namespace G
open PySem PySem.Spec L2
section
variable {P : Program} {w : World} {A : Around} {E : Value → Shared → Prop} {s : Shared}
abbrev zO (w : World) : Obj := ⟨.type "set", none, .set #[] 0 (.fresh 0 0 (!w.params.followText "set-order")), #[]⟩
abbrev lIt (l : Addr) : Obj := { cls := .type "list_iterator", data := .fields #[.ref l, .int 0 0] }
theorem call_setL {l : Addr} {items : Array Value} (ns : List Int) {Q : Value → Shared → Prop} (hh : A.handled = none) (hl : s.heap.IsList l items) (hit : PyProof.Rows.IntsAre items.toList ns) (hb : ns.length + 1 < scanBound)
    (h : ∀ (h' : Heap) (tk c : Nat), SetR w h' s.heap.objs.size (fun j => decide (j ∈ ns)) c → c ≤ ns.length → (∀ b o, s.heap.get? b = some o → h'.get? b = some o) → Q (.ref s.heap.objs.size) { s with heap := h', toks := tk }) :
    wpAny (model P w) A (PySem.call (.type "set") [.ref l]) Q E s := by
  have sz : items.size = ns.length := by rw [← hit.length, Array.length_toList]
  obtain ⟨_, _, hmro⟩ := F.called_set.mro
  have a1 := F.called_set.made
  have a2 := F.called_set.sub
  have a3 := F.called_set.notType
  have a4 := F.called_set.canCreate
  have a5 := F.typeCall_set_1 (.ref l)
  refine wpAny_call <| codeAny_of_tree ?_
  show wpAny _ _ (callAny (.type "set") _) _ _ _
  refine wpAny_pure ⟨Code.quiet_builtin _ (by decide +kernel), codeAny_builtin F.entry_type_call ?_⟩
  rw [Around.under_plain (weight_type_call_type "set" [.ref l] []) rfl]
  repeat (any_goals (first | assumption | wp_step))

  refine codeAny_mono (code_set_led1 (.ref l) (E := E) (Q₁ := fun obj t => obj = .ref s.heap.objs.size ∧ t = { s with heap := s.heap.push (zO w) }) ⟨rfl, rfl⟩) fun r t hr => ?_
  cases r with
  | error e => exact hr
  | ok fl =>
    cases fl with
    | next => exact hr.elim
    | brk => exact hr.elim
    | cont => exact hr.elim
    | ret obj =>
      obtain ⟨e1, e2⟩ := hr
      subst e1 e2
      have gS : (s.heap.push (zO w)).get? s.heap.objs.size = some (zO w) := Heap.get?_push_size _ rfl
      have tS : Shared.TypeIs { s with heap := s.heap.push (zO w) } (.ref s.heap.objs.size) "set" := ⟨_, gS, rfl⟩
      have b1 := F.called_set.init.lookup
      have b2 := F.called_set.init.bind (.ref s.heap.objs.size)
      repeat (any_goals (first | assumption | wp_step))

      refine codeAny_mono (codeAny_call_builtin (R := wants (fun r t => r = .none ∧ ∃ h' tk c, t = { s with heap := h', toks := tk } ∧ SetR w h' s.heap.objs.size (fun j => decide (j ∈ ns)) c ∧ c ≤ ns.length ∧ (∀ b o, s.heap.get? b = some o → h'.get? b = some o)) E) F.called_set.init.plain F.entry_set_init (check_set_init_1 tS ?_)) fun r t hr => ?_
      · obtain ⟨⟨c0, d0, t0, l0⟩, hol, hcl, nl, hdl⟩ := hl
        simp only at hcl hdl
        subst hcl hdl
        have gL : (s.heap.push (zO w)).get? l = some ⟨.type "list", d0, .seq items nl, l0⟩ := Heap.get?_push_of_some _ hol
        have c1 := F.sub_list_set
        have c2 := F.sub_list_frozenset
        have c3 : (Value.type "list" == Value.type "dict") = false := by decide
        have iL : (s.heap.push (zO w)).IsList l items := ⟨_, gL, rfl, nl, rfl⟩
        unfold Builtin.«set.__init__» noKeywords Builtin.Frozenset.updateFrom
        generalize hp : pyIter = py
        wp_walk
        subst hp

        refine wpAny_pyIter_list iL (wpAny_bind (wpAny_runValue ?_))
        have hlS : l < s.heap.objs.size := Heap.lt_size hol
        have h3 : A.in1.in1.in1.handled = none := by simp [hh]
        have n1 : l ≠ (s.heap.push (zO w)).objs.size := by
          rw [Heap.size_push]
          exact fun z => Nat.lt_irrefl _ (Nat.lt_trans (z ▸ hlS) (Nat.lt_succ_self _))
        have n2 : s.heap.objs.size ∉ [(s.heap.push (zO w)).objs.size, l] := by
          rw [Heap.size_push]
          intro z
          rcases List.mem_cons.mp z with z | z
          · exact Nat.succ_ne_self _ z.symm
          · exact Nat.lt_irrefl _ (List.mem_singleton.mp z ▸ hlS)
        have val : ∀ (i : Nat) (v : Value), items[i]? = some v → ∃ k t, ns[i]? = some k ∧ v = .int k t := fun i v hv => by
          have hi : i < ns.length := by rw [← sz]; exact (Array.getElem?_eq_some_iff.mp hv).1
          obtain ⟨t, e⟩ := PyProof.Rows.IntsAre.int_at hit i v (by rw [Array.getElem?_toList]; exact hv)
          exact ⟨ns[i], t, List.getElem?_eq_getElem hi, by rw [e, List.getD_eq_getElem?_getD, List.getElem?_eq_getElem hi] <;> rfl⟩
        have gS2 : ((s.heap.push (zO w)).push (lIt l)).get? s.heap.objs.size = some (zO w) := Heap.get?_push_of_some _ gS
        refine set_update_ints ((Walks.list h3 _ l n1 items).toS) s.heap.objs.size n2 ns sz hb val (items.size - 0) 0 _ (by omega) (Nat.zero_le _) ⟨⟨_, Heap.get?_push_size _ rfl, rfl, rfl⟩, (iL.push _)⟩ ⟨0, Nat.le_refl 0, setR_new_at gS2⟩ fun t c hm hc hS => ?_
        obtain ⟨h', g2, d', tk', os'⟩ := t
        have eg : g2 = s.gens := hm.gens
        have ed : d' = s.drawn := hm.drawn
        have eo : os' = s.os := hm.os
        subst eg ed eo
        show wpAny _ _ _ _ _ _
        refine wpAny_pure ?_
        show wpAny _ _ (ret Value.none) _ _ _
        refine wpAny_pure ⟨rfl, h', tk', c, rfl, hS, by rw [← sz]; exact hc, fun b o e => ?_⟩
        have hb0 : b < s.heap.objs.size := Heap.lt_size e
        refine hm.heap b o ?_ (Heap.get?_push_of_some _ (Heap.get?_push_of_some _ e))
        rw [Heap.size_push]
        intro z
        rcases List.mem_cons.mp z with z | z
        · exact Nat.lt_irrefl _ (z ▸ hb0)
        · exact Nat.lt_irrefl _ (Nat.lt_trans (List.mem_singleton.mp z ▸ hb0) (Nat.lt_succ_self _))

      · cases r with
        | error e => exact hr
        | ok fl =>
          cases fl with
          | next => exact hr.elim
          | brk => exact hr.elim
          | cont => exact hr.elim
          | ret r =>
            obtain ⟨e1, h', tk, c, e2, hS, hc, hk⟩ := hr
            subst e1 e2
            repeat (any_goals (first | assumption | wp_step))
            exact h _ _ _ hS hc hk
end
end G

/-! GSort: sorted(set(..)), sorted(..), [..] * n; what is not reached. -/
namespace G
open PySem PySem.Spec L2
open Evl (Ex)
/-- a statement that is not reached -/
def stuck : S := .asg .nil (.c .non)
@[simp] theorem stuck_wp {σ : Sl} {cs : Cs} {K : Ends} : wpS stuck σ cs K = False := rfl
def sSortSet : Spec := fun ds cs Q _ => match ds with
  | [x] => match getL x cs with
    | some xs => ∃ ns : List Int, xs = ns.map D.int ∧ ns.length ≤ 4000 ∧ (∀ k ∈ ns, 0 ≤ k ∧ k < 63) ∧ ∀ ms : List Int, ms.Pairwise (· < ·) → (∀ k, k ∈ ms ↔ k ∈ ns) → Q (.lst (ms.map D.int)) cs
    | none => False
  | _ => False
theorem nodup_len : ∀ (n : Nat) (l : List Int), l.Nodup → (∀ k ∈ l, 0 ≤ k ∧ k < (n : Int)) → l.length ≤ n
  | 0, l, _, h => by
    cases l with
    | nil => exact Nat.le_refl _
    | cons x r =>
      have := h x List.mem_cons_self
      omega
  | n + 1, l, hn, h => by
    have h2 := nodup_len n (l.erase (n : Int)) (hn.erase _) fun k hk => by
      have h3 := hn.mem_erase_iff.mp hk
      have h4 := h k h3.2
      have h5 := h3.1
      omega
    have h6 := List.length_erase (a := (n : Int)) (l := l)
    split at h6 <;> omega
section
variable {X : Cx} {W : WX} {pos p p' q : Pos} {a b e : Expr} {ca cb ce : E} {K : PySem.W.Frag}
theorem ints_V {wd : Wd} {ns : List Int} {vs : List V} (r : RpL K wd (ns.map D.int) vs) : vs = ns.map V.int := by
  induction ns generalizing vs with
  | nil => exact r
  | cons n ns ih =>
    obtain ⟨v, us, e, h, t⟩ := r
    have hv : v = .int n := h
    rw [e, hv, ih t]
    rfl
def rSetL (K : PySem.W.Frag) (w : World) : List V → Hp → VK → Prop := fun vs H Q => ∃ (l : Addr) (ns : List Int), vs = [.ref l] ∧ SqL K H l (ns.map V.int) ∧ ns.length ≤ 4000 ∧ (∀ k ∈ ns, 0 ≤ k ∧ k < 63) ∧
  ∀ (p : Addr) (c : Nat), H p = none → c < 64 → Q (.ref p) (upd H p (SetO w p (fun j => decide (j ∈ ns)) c))
theorem cr_setL (hc : X.calm = true) : CallR X (.type "set") (rSetL X.K X.w) := by
  intro pins s σ H xs us Q I r h
  obtain ⟨l, ns, rfl, hq, hl, hb, q⟩ := h
  obtain ⟨its, rv, pl, hz⟩ := I.list hq
  rw [Vals.ref1 r]
  refine call_setL ns (I.ok.hd hc) pl.isList (intsAre_of rv) (by unfold scanBound; omega) fun h' tk c R hcn k => ?_
  have c63 : c < 64 := by
    obtain ⟨o, es, ep, t, ho, hex, hdt, g, nd, hm2, _, hf, hn, hr, hl2⟩ := R
    have := nodup_len 63 _ nd fun k hk => hb k (by
      have := hm2 k
      simp only [decide_eq_decide] at this
      first | exact this.mp hk | exact this.mpr hk | (simp [hk] at this; exact this))
    simp at this
    omega
  exact ⟨.ref _, upd H s.heap.objs.size (SetO X.w s.heap.objs.size _ c), I.laid (t' := tk) k (Nat.le_refl _) (setO_new R), rfl, q _ c (I.hok.fresh (Nat.le_refl _)) c63⟩
theorem boot_sortedG : bootBuiltins ("sorted" : Str) = some (.builtin "sorted") := PyProof.Rows.boot_sorted
theorem boot_setG : bootBuiltins ("set" : Str) = some (.type "set") := PyProof.Rows.boot_set
theorem j_sortSet (hc : X.calm = true) (hg : Gl X "sorted") (hm : X.mg "sorted" = none) (hg2 : Gl X "set") (hm2 : X.mg "set" = none) (ha : JE X W a ca) (h1 : starEach [a] X.env = (false, eval a X.env) :: starEach [] X.env := by rfl)
    (h2 : starEach [Expr.Call (.Name "set" q) [a] [] p'] X.env = (false, eval (.Call (.Name "set" q) [a] [] p') X.env) :: starEach [] X.env := by rfl) :
    JE X W (.Call (.Name "sorted" p) [.Call (.Name "set" q) [a] [] p'] [] pos) (.app sSortSet (.cons ca .nil)) := by
  obtain ⟨ta, p1, r1⟩ := ha
  refine ⟨_, pe_callB (cr_sortedSet hc) hg hm boot_sortedG (pa_cons (pe_callTy (cr_setL hc) hg2 hm2 boot_setG (pa_cons p1 pa_nil h1) (by decide) (by decide) h1 rfl) pa_nil h2) (by decide) (by decide) h2 rfl, fun wd F τ cs σ H P PX Q R rs h q x => ?_⟩
  refine r1 wd F τ cs σ H _ PX _ R rs h (fun wd1 d c1 v H1 l1 R1 rv h1 => ?_) x
  have h1 : (match G.getL d c1 with
    | some xs => ∃ ns : List Int, xs = ns.map D.int ∧ ns.length ≤ 4000 ∧ (∀ k ∈ ns, 0 ≤ k ∧ k < 63) ∧ ∀ ms : List Int, ms.Pairwise (· < ·) → (∀ k, k ∈ ms ↔ k ∈ ns) → P (.lst (ms.map D.int)) c1
    | none => False) := h1
  cases ex : G.getL d c1 with
  | none =>
    rw [ex] at h1
    exact h1.elim
  | some xs =>
    rw [ex] at h1
    obtain ⟨ns, e, hl, hb, k⟩ := h1
    subst e
    obtain ⟨a, ws, ev, hs, r⟩ := R1.getL rv ex
    have ew := ints_V r
    subst ew
    refine ⟨a, ns, by rw [ev], SqL.of hs, hl, hb, fun p c hp hc64 => ?_⟩
    obtain ⟨R2, l2⟩ := R1.new hp (SetO X.w p (fun j => decide (j ∈ ns)) c)
    refine ⟨p, _, c, rfl, upd_same, hc64, fun ms p2 hs2 hm hlen hp2 => ?_⟩
    obtain ⟨wd3, l3, R3, r3⟩ := R2.lst hp2 (ints_rp ms)
    exact q wd3 _ c1 _ _ ((l1.trans l2).trans l3) R3 r3 (k ms hs2 fun k => by rw [hm k]; simp)
theorem refn_sorted : RefN X.K (rSortedI X.K) sSorted := by
  intro wd F cs H ds vs P PX Q R r hs q
  obtain ⟨d, ed, h1⟩ : ∃ d, ds = [d] ∧ (match G.getL d cs with
      | some xs => ∃ ns : List Int, xs = ns.map D.int ∧ ∀ ns' : List Int, ns'.Perm ns → ns'.Pairwise (· ≤ ·) → P (.lst (ns'.map D.int)) cs
      | none => False) := by
    unfold sSorted at hs
    split at hs
    · exact ⟨_, rfl, hs⟩
    · exact hs.elim
  subst ed
  obtain ⟨v, ev, rd⟩ := r.one
  subst ev
  cases ex : G.getL d cs with
  | none =>
    rw [ex] at h1
    exact h1.elim
  | some xs =>
    rw [ex] at h1
    obtain ⟨ns, e, k⟩ := h1
    subst e
    obtain ⟨a, ws, ev, hs, r⟩ := R.getL rd ex
    have ew := ints_V r
    subst ew
    refine ⟨a, ns, by rw [ev], SqL.of hs, fun ms p hp1 hp2 hp => ?_⟩
    obtain ⟨wd3, l3, R3, r3⟩ := R.lst hp (ints_rp ms)
    exact q wd3 _ cs _ _ l3 R3 r3 (k ms hp1 hp2)
theorem j_sorted (hg : Gl X "sorted") (hm : X.mg "sorted" = none) (ha : JE X W a ca) (h1 : starEach [a] X.env = (false, eval a X.env) :: starEach [] X.env := by rfl) : JE X W (.Call (.Name "sorted" p) [a] [] pos) (.app sSorted (.cons ca .nil)) :=
  j_bltn cr_sortedI refn_sorted hg hm boot_sortedG (ja_cons ha ja_nil h1) (he := h1) (hpl := rfl)
theorem rep_rp {wd : Wd} {ds : List D} {vs : List V} (r : RpL K wd ds vs) : ∀ n : Nat, RpL K wd (List.replicate n ds).flatten (List.replicate n vs).flatten
  | 0 => rfl
  | n + 1 => by
    rw [List.replicate_succ, List.replicate_succ, List.flatten_cons, List.flatten_cons]
    exact r.append (rep_rp r n)
theorem ref_rep : Ref2 X.K rRep sRep := by
  intro wd F cs H x y v w P PX Q R rx ry h q
  unfold sRep at h
  split at h
  · rename_i x' k ee
    cases ee
    have ew : w = .int k := ry
    subst ew
    cases ex : G.getL x cs with
    | none =>
      rw [ex] at h
      exact h.elim
    | some xs =>
      rw [ex] at h
      obtain ⟨h1, h2, h3, h4⟩ := h
      obtain ⟨a, ws, ev, hs, r⟩ := R.getL rx ex
      refine ⟨a, k, ws, ev, rfl, hs, h1, h2, by rw [r.length, sizeL]; exact h3, fun p hp => ?_⟩
      obtain ⟨wd3, l3, R3, r3⟩ := R.lst hp (rep_rp r k.toNat)
      exact q wd3 _ cs _ _ l3 R3 r3 h4
  · exact h.elim
theorem ref_repM : Ref2 X.K rRep sRepM := by
  intro wd F cs H x y v w P PX Q R rx ry h q
  unfold sRepM at h
  split at h
  · rename_i x' k ee
    cases ee
    have ew : w = .int k := ry
    subst ew
    cases ex : G.getL x cs with
    | none =>
      rw [ex] at h
      exact h.elim
    | some xs =>
      rw [ex] at h
      obtain ⟨h1, h2, h3, h4⟩ := h
      obtain ⟨a, ws, ev, hs, r⟩ := R.getL rx ex
      refine ⟨a, k, ws, ev, rfl, hs, h1, h2, by rw [r.length, sizeL]; exact h3, fun p hp => ?_⟩
      obtain ⟨n, wd3, hn, l3, R3, r3⟩ := R.cellL hp (rep_rp r k.toNat)
      exact q wd3 _ _ _ _ l3 R3 r3 (h4 n hn)
  · exact h.elim
theorem j_rep (ha : JE X W a ca) (hb : JE X W b cb) : JE X W (.BinOp a .Mult b pos) (.app sRep (.cons ca (.cons cb .nil))) := j_op op_rep ref_rep ha hb
theorem j_repM (ha : JE X W a ca) (hb : JE X W b cb) : JE X W (.BinOp a .Mult b pos) (.app sRepM (.cons ca (.cons cb .nil))) := j_op op_rep ref_repM ha hb
theorem js_stuck {st : Stmt} : JS X W st stuck := ⟨fun _ _ _ => False, ⟨fun pins s σ D H I h => h.elim⟩, fun wd F τ cs σ H P Q R rs h q => (show False from h).elim⟩
end
end G

/-! GStar: a, *b, c = a list. -/
namespace G
open PySem PySem.Spec L2
open Evl (Ex)
section
variable {P : Program} {w : World} {A : Around} {E : Value → Shared → Prop} {s : Shared}
abbrev lOb (vs : List Value) : Obj := { cls := .type "list", data := .seq vs.toArray }
theorem unpack_star {l : Addr} {vs : List Value} {n i : Nat} {Q : List Value → Shared → Prop} (hl : s.heap.IsList l vs.toArray) (hh : A.handled = none) (hi : i < n) (hn : n ≤ vs.length + 1) (hz : vs.length ≤ sizeLine)
    (h : ∀ (g : Heap) (tk : Nat), (∀ b o, s.heap.get? b = some o → g.get? b = some o) → Q (vs.take i ++ [.ref g.objs.size] ++ (vs.drop i).drop (vs.length + 1 - n)) { s with heap := g.push (lOb ((vs.drop i).take (vs.length + 1 - n))), toks := tk }) :
    wpAny (model P w) A (unpackItems (.ref l) n (some i)) Q E s := by
  have szv : vs.toArray.size = vs.length := List.size_toArray ..
  have hlt : l < s.heap.objs.size := by
    obtain ⟨o, ho, _⟩ := hl
    exact Heap.lt_size ho
  unfold unpackItems notIterableAtAll
  refine wpAny_bind <| wpAny_bind <| wpAny_specialOf hl.typeIs slot_list_iter.lookup <| wpAny_pure ?_
  simp only [Bool.false_eq_true, if_false]
  refine wpAny_bind <| wpAny_holding <| wpAny_pyIter_list hl ?_
  refine wpAny_bind <| wpAny_holding <| PySem.W.kun_draw (Nat.ne_of_lt hlt) i 0 _ _ ⟨_, Heap.get?_push_size _ rfl, rfl, rfl⟩ (hl.push _) (by omega) fun g1 it1 sb1 => ?_
  have l1 : g1.IsList l vs.toArray := (hl.push _).extBut sb1.extBut (Nat.ne_of_lt hlt)
  have it2 : g1.IsListIter s.heap.objs.size l i := by
    rw [Nat.zero_add] at it1
    exact it1
  have z1 : s.heap.objs.size < g1.objs.size := by
    obtain ⟨o, ho, _⟩ := it2
    exact Heap.lt_size ho
  rw [List.drop_zero]
  have fl : (vs.take i).length = i := by
    rw [List.length_take]
    omega
  rw [if_neg (show ¬ ((vs.take i).length < i) by rw [fl]; omega)]
  refine wpAny_bind <| wpAny_holding <| PySem.W.kun_collect (s := { s with heap := g1 }) (T := "list_iterator") (.inr (.inr (.inl rfl))) (Walks.list (A := A.in1) hh s.heap.objs.size l (Nat.ne_of_lt hlt) vs.toArray) (fun j u st => st.1.typeIs) (k := i) (by omega) ⟨it2, l1⟩ z1 (Nat.lt_trans hlt z1) (fun g2 tk hk => ?_) (by omega)
  have rl : (vs.drop i).length = vs.length - i := List.length_drop ..
  have md : (vs.drop i).length - (n - 1 - i) = vs.length + 1 - n := by omega
  show wpAny _ _ (if (vs.drop i).length < n - 1 - i then _ else _) _ _ _
  rw [if_neg (by omega)]
  show wpAny _ _ (newList ((vs.drop i).take ((vs.drop i).length - (n - 1 - i))) >>= fun d => pure (vs.take i ++ [d] ++ (vs.drop i).drop ((vs.drop i).length - (n - 1 - i)))) _ _ _
  rw [md]
  have kp : ∀ b o, s.heap.get? b = some o → g2.get? b = some o := fun b o e => by
    have ne : b ≠ s.heap.objs.size := Nat.ne_of_lt (Heap.lt_size e)
    exact hk b o ne (sb1.extBut b o ne (Heap.get?_push_of_some _ e))
  refine wpAny_bind <| wpAny_newList (wpAny_pure (h g2 tk kp)) ?_
  rw [List.length_take]
  omega
end
/-- a list as a tuple with the middle as a list: the stars' places -/
def starD (n i : Nat) (xs : List D) : List D := xs.take i ++ [.lst ((xs.drop i).take (xs.length + 1 - n))] ++ (xs.drop i).drop (xs.length + 1 - n)
def sStar (n i : Nat) : Spec := fun ds cs Q _ => match ds with
  | [x] => match getL x cs with
    | some xs => i < n ∧ n ≤ xs.length + 1 ∧ Q (.tup (starD n i xs)) cs
    | none => False
  | _ => False
section
variable {X : Cx} {W : WX} {pos p p' : Pos} {e tg : Expr} {ce : E} {tgs elts : List Expr} {pt : Pat} {own : List Nat} {n i k : Nat}
theorem jgs_star (h : JGs X (tg :: tgs) pt own n) (hs : (assignEach (.Starred tg p :: tgs) X.env).map (·.2) = (assignEach (tg :: tgs) X.env).map (·.2) := by rfl) : JGs X (.Starred tg p :: tgs) pt own n := by
  obtain ⟨g, p1, r1, l⟩ := h
  refine ⟨g, ⟨fun pins s σ H vs us Q I r q => ?_⟩, r1, l⟩
  rw [hs]
  exact p1.run pins s σ H vs us Q I r q
def gStar (K : PySem.W.Frag) (n i : Nat) (t : TGs) : TG := fun v σ H Q => ∃ a xs, v = .ref a ∧ SqL K H a xs ∧ i < n ∧ n ≤ xs.length + 1 ∧ ∀ D, H D = none → t (xs.take i ++ [.ref D] ++ (xs.drop i).drop (xs.length + 1 - n)) σ (upd H D (.lst ((xs.drop i).take (xs.length + 1 - n)))) Q
theorem pg_star {t : TGs} (hc : X.calm = true) (h : PGs X elts t) (hn : (assignEach elts X.env).length = n := by rfl) (hst : (assignEach elts X.env).findIdx? (·.1) = some i := by rfl) : PG X (.Tuple elts k p) (gStar X.K n i t) := by
  refine ⟨fun pins s σ H v u Q I r hw => ?_⟩
  obtain ⟨a, xs, e1, hq, h1, h2, hw⟩ := hw
  subst e1
  cases r
  obtain ⟨its, rv, pl, hz⟩ := I.list hq
  have hl := rv.length
  rw [PyProof.Rows.assign_Tuple]
  refine wpAny_bind <| wpAny_standAt ?_
  unfold unpack
  rw [hn, hst]
  refine wpAny_bind <| wpAny_holding <| unpack_star pl.isList (I.ok.hd hc) h1 (by omega) (by omega) fun g tk kp => ?_
  have I1 : Inv X pins σ H { s with heap := g, toks := tk } := I.kept (t' := tk) kp
  have fr : H g.objs.size = none := I1.hok.fresh (Nat.le_refl _)
  have rm : Vals ((xs.drop i).take (xs.length + 1 - n)) ((its.drop i).take (its.length + 1 - n)) := by
    rw [← hl]
    exact (rv.drop i).take _
  have I2 : Inv X pins σ (upd H g.objs.size (.lst ((xs.drop i).take (xs.length + 1 - n)))) { s with heap := g.push (lOb ((its.drop i).take (its.length + 1 - n))), toks := tk } :=
    I1.laid (t' := tk) (fun b o q => Heap.get?_push_of_some _ q) (Nat.le_refl _) ⟨by rw [List.length_take, List.length_drop]; omega, _, 0, rm, Heap.get?_push_size _ rfl⟩
  refine h.run pins _ σ _ _ _ Q I2 ?_ (hw _ fr)
  rw [← hl]
  exact ((rv.take i).append (.cons (show RelV (V.ref g.objs.size) (Value.ref g.objs.size) from rfl) .nil)).append ((rv.drop i).drop _)
theorem starD_rp {K : PySem.W.Frag} {wd : Wd} {a : Addr} {ds : List D} {vs : List V} (r : RpL K wd ds vs) (h : wd.B a = some (.lst ((vs.drop i).take (vs.length + 1 - n)))) : RpL K wd (starD n i ds) (vs.take i ++ [.ref a] ++ (vs.drop i).drop (vs.length + 1 - n)) := by
  unfold starD
  have l := r.length
  rw [l] at h ⊢
  have m : RpL K wd ((ds.drop i).take (ds.length + 1 - n)) ((vs.drop i).take (ds.length + 1 - n)) := (r.drop i).take _
  have o : RpL K wd [.lst ((ds.drop i).take (ds.length + 1 - n))] [.ref a] := ⟨.ref a, [], rfl, ⟨a, _, rfl, h, m⟩, rfl⟩
  exact ((r.take i).append o).append ((r.drop i).drop _)
theorem js_star (i n : Nat) (hc : X.calm = true) (he : JE X W e ce) (h : JGs X elts pt own n) (hn : (assignEach elts X.env).length = n := by rfl) (hst : (assignEach elts X.env).findIdx? (·.1) = some i := by rfl) (hs : swapsWithSole [.Tuple elts k p] e pos.line X.env = pure false := by rfl) (hw : swappedStores [.Tuple elts k p] e X.env = pure none := by rfl)
    (h1 : (assignEach [.Tuple elts k p] X.env).map (·.2) = [assign (.Tuple elts k p) X.env] := by rfl) : JS X W (.Assign [.Tuple elts k p] e pos) (.asg (.tup pt) (.app (sStar n i) (.cons ce .nil))) := by
  obtain ⟨te, p1, r1⟩ := he
  obtain ⟨g, p2, r2, _⟩ := h
  refine ⟨_, ps_asg p1 (pg_star hc p2 hn hst) hs hw h1, fun wd F τ cs σ H P Q R rs h q => ?_⟩
  refine r1 wd F τ cs σ H _ _ _ R rs h (fun wd1 d c1 v H1 l1 R1 rv h1 => ?_) (q.xok rs)
  have h1 : (match G.getL d c1 with
    | some xs => i < n ∧ n ≤ xs.length + 1 ∧ (match bindP pt (starD n i xs) τ with
      | some σ' => P.nx σ' c1
      | none => False)
    | none => False) := h1
  cases ex : G.getL d c1 with
  | none =>
    rw [ex] at h1
    exact h1.elim
  | some xs =>
    rw [ex] at h1
    obtain ⟨g1, g2, h2⟩ := h1
    obtain ⟨a, ws, ev, hs, r⟩ := R1.getL rv ex
    refine ⟨a, ws, ev, SqL.of hs, g1, by rw [r.length]; exact g2, fun D hD => ?_⟩
    obtain ⟨R2, l2⟩ := R1.new hD (.lst ((ws.drop i).take (ws.length + 1 - n)))
    cases eb : bindP pt (starD n i xs) τ with
    | none =>
      rw [eb] at h2
      exact h2.elim
    | some τ' =>
      rw [eb] at h2
      exact r2 _ F τ c1 σ _ _ _ τ' _ R2 ((rs.mono l1).mono l2) (starD_rp (RpL.mono l2 _ _ r) upd_same) eb fun σ' rs' _ => q.nx _ τ' c1 σ' _ (l1.trans l2) R2 rs' h2
end
end G

namespace G
def c_l_shuffled_1 (p__law_take : G.Spec) : S := (.asg (.nm 2) (.app sListM .nil))
def c_l_shuffled_2 (p__law_take : G.Spec) : S := (.exp (.meth chkL sInsert (.v 2) (.cons (.app p__law_take (.cons (.v 0) (.cons (.app sAdd (.cons (.app sLen (.cons (.v 2) .nil)) (.cons (.c (.int 1)) .nil))) .nil))) (.cons (.v 3) .nil))))
def c_l_shuffled_3 (p__law_take : G.Spec) : S := (.fr (.nm 3) iSeq (.cons (.v 1) .nil) (c_l_shuffled_2 p__law_take))
def c_l_shuffled_4 (p__law_take : G.Spec) : S := (.ret (.v 2))
def c_l_shuffled (p__law_take : G.Spec) : S := (.seq (c_l_shuffled_1 p__law_take) (.seq (c_l_shuffled_3 p__law_take) (.seq (.frz 2) (c_l_shuffled_4 p__law_take))))
def c_l_size_1 (p__law_of : G.Spec) (p__law_take : G.Spec) : S := (.ret (.app p__law_of (.cons (.v 0) (.cons (.app sList (.cons (.app p__law_take (.cons (.v 0) (.cons (.app sAdd (.cons (.v 1) (.cons (.c (.int 1)) .nil))) .nil))) (.cons (.app sMin2 (.cons (.v 1) (.cons (.app p__law_take (.cons (.v 0) (.cons (.c (.int 8)) .nil))) .nil))) (.cons (.app sMin2 (.cons (.v 1) (.cons (.c (.int 3)) .nil))) .nil)))) .nil))))
def c_l_size (p__law_of : G.Spec) (p__law_take : G.Spec) : S := (c_l_size_1 p__law_of p__law_take)
def c_l_path_1 : S := (.asg (.nm 2) (.app sListM (.cons (.v 1) .nil)))
def c_l_path_2 : S := (.exp (.meth chkL sAppend (.v 2) (.cons (.app sIx (.cons (.v 0) (.cons (.app sIx (.cons (.v 2) (.cons (.app sNeg (.cons (.c (.int 1)) .nil)) .nil))) .nil))) .nil)))
def c_l_path_3 : S := (.ite (.app sNe (.cons (.app sIx (.cons (.v 0) (.cons (.app sIx (.cons (.v 2) (.cons (.app sNeg (.cons (.c (.int 1)) .nil)) .nil))) .nil))) (.cons (.app sIx (.cons (.v 2) (.cons (.app sNeg (.cons (.c (.int 1)) .nil)) .nil))) .nil))) (c_l_path_2) .skip)
def c_l_path_4 : S := (.fr (.nm 3) iRng1 (.cons (.app sLen (.cons (.v 0) .nil)) .nil) (c_l_path_3))
def c_l_path_5 : S := (.ret (.v 2))
def c_l_path : S := (.seq (c_l_path_1) (.seq (c_l_path_4) (.seq (.frz 2) (c_l_path_5))))
def c_l_root_1 (p__law_path : G.Spec) : S := (.ret (.app sIx (.cons (.app p__law_path (.cons (.v 0) (.cons (.v 1) .nil))) (.cons (.app sNeg (.cons (.c (.int 1)) .nil)) .nil))))
def c_l_root (p__law_path : G.Spec) : S := (c_l_root_1 p__law_path)
def c_l_renamed_1 (p__law_shuffled : G.Spec) : S := (.asg (.nm 2) (.app p__law_shuffled (.cons (.v 0) (.cons (.app sListRg (.cons (.c (.int 0)) (.cons (.app sLen (.cons (.v 1) .nil)) .nil))) .nil))))
def c_l_renamed_2 (p__law_shuffled : G.Spec) : S := (.asg (.nm 3) (.app sRepM (.cons (.app sList (.cons (.c (.int 0)) .nil)) (.cons (.app sLen (.cons (.v 1) .nil)) .nil))))
def c_l_renamed_3 (p__law_shuffled : G.Spec) : S := (.exp (.app sSetIx (.cons (.app sIx (.cons (.v 2) (.cons (.app sIx (.cons (.v 1) (.cons (.v 4) .nil))) .nil))) (.cons (.v 3) (.cons (.app sIx (.cons (.v 2) (.cons (.v 4) .nil))) .nil)))))
def c_l_renamed_4 (p__law_shuffled : G.Spec) : S := (.fr (.nm 4) iRng1 (.cons (.app sLen (.cons (.v 1) .nil)) .nil) (c_l_renamed_3 p__law_shuffled))
def c_l_renamed_5 (p__law_shuffled : G.Spec) : S := (.ret (.app sTupOf (.cons (.v 3) .nil)))
def c_l_renamed (p__law_shuffled : G.Spec) : S := (.seq (c_l_renamed_1 p__law_shuffled) (.seq (c_l_renamed_2 p__law_shuffled) (.seq (c_l_renamed_4 p__law_shuffled) (c_l_renamed_5 p__law_shuffled))))
def c_l_forest_1 (p__law_renamed : G.Spec) (p__law_take : G.Spec) : S := (.asg (.tup (.cons (.nm 3) (.cons (.nm 4) .nil))) (.app sTup (.cons (.app p__law_take (.cons (.v 0) (.cons (.c (.int 6)) .nil))) (.cons (.app sListM .nil) .nil))))
def c_l_forest_2 (p__law_renamed : G.Spec) (p__law_take : G.Spec) : S := (.asg (.nm 6) (.app sList (.cons (.app sSub (.cons (.v 5) (.cons (.c (.int 1)) .nil))) (.cons (.c (.int 0)) (.cons (.app sMax2 (.cons (.c (.int 0)) (.cons (.app sSub (.cons (.v 5) (.cons (.c (.int 2)) .nil))) .nil))) (.cons (.app sMax2 (.cons (.c (.int 0)) (.cons (.app sSub (.cons (.app sSub (.cons (.v 5) (.cons (.c (.int 1)) .nil))) (.cons (.app sMod (.cons (.v 5) (.cons (.c (.int 2)) .nil))) .nil))) .nil))) .nil))))))
def c_l_forest_3 (p__law_renamed : G.Spec) (p__law_take : G.Spec) : S := (.asg (.nm 7) (.ite (.app sLt (.cons (.v 3) (.cons (.c (.int 4)) .nil))) (.app sIx (.cons (.v 6) (.cons (.v 3) .nil))) (.app p__law_take (.cons (.v 0) (.cons (.app sMax2 (.cons (.c (.int 1)) (.cons (.v 5) .nil))) .nil)))))
def c_l_forest_4 (p__law_renamed : G.Spec) (p__law_take : G.Spec) : S := (.asg (.nm 7) (.app sMax2 (.cons (.c (.int 0)) (.cons (.app sSub (.cons (.app sSub (.cons (.v 5) (.cons (.c (.int 1)) .nil))) (.cons (.app p__law_take (.cons (.v 0) (.cons (.c (.int 3)) .nil))) .nil))) .nil))))
def c_l_forest_5 (p__law_renamed : G.Spec) (p__law_take : G.Spec) : S := (.ite (.app sEq (.cons (.v 3) (.cons (.c (.int 5)) .nil))) (c_l_forest_4 p__law_renamed p__law_take) .skip)
def c_l_forest_6 (p__law_renamed : G.Spec) (p__law_take : G.Spec) : S := (.asg (.nm 7) (.v 5))
def c_l_forest_7 (p__law_renamed : G.Spec) (p__law_take : G.Spec) : S := (.ite (.or (.app sEq (.cons (.v 5) (.cons (.c (.int 0)) .nil))) (.and (.app sLt (.cons (.v 5) (.cons (.v 2) .nil))) (.app sEq (.cons (.app p__law_take (.cons (.v 0) (.cons (.c (.int 2)) .nil))) (.cons (.c (.int 0)) .nil))))) (c_l_forest_6 p__law_renamed p__law_take) .skip)
def c_l_forest_8 (p__law_renamed : G.Spec) (p__law_take : G.Spec) : S := (.exp (.meth chkL sAppend (.v 4) (.cons (.v 7) .nil)))
def c_l_forest_9 (p__law_renamed : G.Spec) (p__law_take : G.Spec) : S := (.fr (.nm 5) iRng1 (.cons (.v 1) .nil) (.seq (c_l_forest_2 p__law_renamed p__law_take) (.seq (c_l_forest_3 p__law_renamed p__law_take) (.seq (c_l_forest_5 p__law_renamed p__law_take) (.seq (c_l_forest_7 p__law_renamed p__law_take) (c_l_forest_8 p__law_renamed p__law_take))))))
def c_l_forest_10 (p__law_renamed : G.Spec) (p__law_take : G.Spec) : S := (.ret (.app p__law_renamed (.cons (.v 0) (.cons (.v 4) .nil))))
def c_l_forest (p__law_renamed : G.Spec) (p__law_take : G.Spec) : S := (.seq (c_l_forest_1 p__law_renamed p__law_take) (.seq (c_l_forest_9 p__law_renamed p__law_take) (c_l_forest_10 p__law_renamed p__law_take)))
def c_l_some_forest_1 (p__law_forest : G.Spec) (p__law_size : G.Spec) (p__law_take : G.Spec) : S := (.ret (.app p__law_forest (.cons (.v 0) (.cons (.app p__law_size (.cons (.v 0) (.cons (.v 1) .nil))) (.cons (.app sAdd (.cons (.c (.int 1)) (.cons (.app p__law_take (.cons (.v 0) (.cons (.c (.int 5)) .nil))) .nil))) .nil)))))
def c_l_some_forest (p__law_forest : G.Spec) (p__law_size : G.Spec) (p__law_take : G.Spec) : S := (c_l_some_forest_1 p__law_forest p__law_size p__law_take)
def c_l_nodes_1 (p__law_of : G.Spec) (p__law_shuffled : G.Spec) (p__law_take : G.Spec) : S := (.ret (.app sList .nil))
def c_l_nodes_2 (p__law_of : G.Spec) (p__law_shuffled : G.Spec) (p__law_take : G.Spec) : S := (.ite (.app sEq (.cons (.v 1) (.cons (.c (.int 0)) .nil))) (c_l_nodes_1 p__law_of p__law_shuffled p__law_take) .skip)
def c_l_nodes_3 (p__law_of : G.Spec) (p__law_shuffled : G.Spec) (p__law_take : G.Spec) : S := (.asg (.nm 3) (.app sCutHi (.cons (.app p__law_shuffled (.cons (.v 0) (.cons (.app sListRg (.cons (.c (.int 0)) (.cons (.v 1) .nil))) .nil))) (.cons (.app sAdd (.cons (.c (.int 1)) (.cons (.app p__law_take (.cons (.v 0) (.cons (.c (.int 4)) .nil))) .nil))) .nil))))
def c_l_nodes_4 (p__law_of : G.Spec) (p__law_shuffled : G.Spec) (p__law_take : G.Spec) : S := (.ret (.comp false [4] (.nm 4) iRng1 (.cons (.app p__law_take (.cons (.v 0) (.cons (.app sAdd (.cons (.v 2) (.cons (.c (.int 1)) .nil))) .nil))) .nil) (.c (.bl true)) (.app p__law_of (.cons (.v 0) (.cons (.app p__law_of (.cons (.v 0) (.cons (.app sList (.cons (.app sListRg (.cons (.c (.int 0)) (.cons (.v 1) .nil))) (.cons (.v 3) .nil))) .nil))) .nil)))))
def c_l_nodes (p__law_of : G.Spec) (p__law_shuffled : G.Spec) (p__law_take : G.Spec) : S := (.seq (c_l_nodes_2 p__law_of p__law_shuffled p__law_take) (.seq (c_l_nodes_3 p__law_of p__law_shuffled p__law_take) (c_l_nodes_4 p__law_of p__law_shuffled p__law_take)))
def c_need_node_1 : S := (.ite (.app sNot (.cons (.chain sLe sLt (.c (.int 0)) (.v 1) (.app sLen (.cons (.v 0) .nil))) .nil)) G.stuck .skip)
def c_need_node : S := (c_need_node_1)
def c_path_of_1 (p_need_node : G.Spec) : S := (.exp (.app p_need_node (.cons (.v 0) (.cons (.v 1) .nil))))
def c_path_of_2 (p_need_node : G.Spec) : S := (.asg (.nm 2) (.app sListM (.cons (.v 1) .nil)))
def c_path_of_3 (p_need_node : G.Spec) : S := (.exp (.meth chkL sAppend (.v 2) (.cons (.app sIx (.cons (.v 0) (.cons (.app sIx (.cons (.v 2) (.cons (.app sNeg (.cons (.c (.int 1)) .nil)) .nil))) .nil))) .nil)))
def c_path_of_4 (p_need_node : G.Spec) : S := (.whl (.app sNe (.cons (.app sIx (.cons (.v 0) (.cons (.app sIx (.cons (.v 2) (.cons (.app sNeg (.cons (.c (.int 1)) .nil)) .nil))) .nil))) (.cons (.app sIx (.cons (.v 2) (.cons (.app sNeg (.cons (.c (.int 1)) .nil)) .nil))) .nil))) (c_path_of_3 p_need_node))
def c_path_of_5 (p_need_node : G.Spec) : S := (.ret (.v 2))
def c_path_of (p_need_node : G.Spec) : S := (.seq (c_path_of_1 p_need_node) (.seq (c_path_of_2 p_need_node) (.seq (c_path_of_4 p_need_node) (.seq (.frz 2) (c_path_of_5 p_need_node)))))
def c_compressed_1 : S := (.ret (.app sTupOf (.cons (.comp false [3, 4] (.tup (.cons (.nm 3) (.cons (.nm 4) .nil))) iEnum (.cons (.v 0) .nil) (.c (.bl true)) (.ite (.app sIn (.cons (.v 3) (.cons (.v 1) .nil))) (.v 2) (.v 4))) .nil)))
def c_compressed : S := (c_compressed_1)
def c_find_1 (p_compressed : G.Spec) (p_path_of : G.Spec) : S := (.asg (.nm 2) (.app p_path_of (.cons (.v 0) (.cons (.v 1) .nil))))
def c_find_2 (p_compressed : G.Spec) (p_path_of : G.Spec) : S := (.ret (.app sTup (.cons (.app p_compressed (.cons (.v 0) (.cons (.v 2) (.cons (.app sIx (.cons (.v 2) (.cons (.app sNeg (.cons (.c (.int 1)) .nil)) .nil))) .nil)))) (.cons (.app sSub (.cons (.app sLen (.cons (.v 2) .nil)) (.cons (.c (.int 1)) .nil))) .nil))))
def c_find (p_compressed : G.Spec) (p_path_of : G.Spec) : S := (.seq (c_find_1 p_compressed p_path_of) (c_find_2 p_compressed p_path_of))
def c_find_all_1 (p_find : G.Spec) (p_need_node : G.Spec) : S := (.exp (.app p_need_node (.cons (.v 0) (.cons (.v 2) .nil))))
def c_find_all_2 (p_find : G.Spec) (p_need_node : G.Spec) : S := (.fr (.nm 2) iSeq (.cons (.v 1) .nil) (c_find_all_1 p_find p_need_node))
def c_find_all_3 (p_find : G.Spec) (p_need_node : G.Spec) : S := (.asg (.nm 3) (.app sListM .nil))
def c_find_all_4 (p_find : G.Spec) (p_need_node : G.Spec) : S := (.asg (.tup (.cons (.nm 0) (.cons (.nm 4) .nil))) (.app p_find (.cons (.v 0) (.cons (.v 2) .nil))))
def c_find_all_5 (p_find : G.Spec) (p_need_node : G.Spec) : S := (.exp (.meth chkL sAppend (.v 3) (.cons (.v 4) .nil)))
def c_find_all_6 (p_find : G.Spec) (p_need_node : G.Spec) : S := (.fr (.nm 2) iSeq (.cons (.v 1) .nil) (.seq (c_find_all_4 p_find p_need_node) (c_find_all_5 p_find p_need_node)))
def c_find_all_7 (p_find : G.Spec) (p_need_node : G.Spec) : S := (.ret (.app sTup (.cons (.v 0) (.cons (.v 3) .nil))))
def c_find_all (p_find : G.Spec) (p_need_node : G.Spec) : S := (.seq (c_find_all_2 p_find p_need_node) (.seq (c_find_all_3 p_find p_need_node) (.seq (c_find_all_6 p_find p_need_node) (.seq (.frz 3) (c_find_all_7 p_find p_need_node)))))
def c_root_of_1 (p_path_of : G.Spec) : S := (.ret (.app sIx (.cons (.app p_path_of (.cons (.v 0) (.cons (.v 1) .nil))) (.cons (.app sNeg (.cons (.c (.int 1)) .nil)) .nil))))
def c_root_of (p_path_of : G.Spec) : S := (c_root_of_1 p_path_of)
def c_depth_of_1 (p_path_of : G.Spec) : S := (.ret (.app sSub (.cons (.app sLen (.cons (.app p_path_of (.cons (.v 0) (.cons (.v 1) .nil))) .nil)) (.cons (.c (.int 1)) .nil))))
def c_depth_of (p_path_of : G.Spec) : S := (c_depth_of_1 p_path_of)
def c_subtree_of_1 (p_need_node : G.Spec) (p_path_of : G.Spec) : S := (.exp (.app p_need_node (.cons (.v 0) (.cons (.v 1) .nil))))
def c_subtree_of_2 (p_need_node : G.Spec) (p_path_of : G.Spec) : S := (.ret (.comp false [2] (.nm 2) iRng1 (.cons (.app sLen (.cons (.v 0) .nil)) .nil) (.app sIn (.cons (.v 1) (.cons (.app p_path_of (.cons (.v 0) (.cons (.v 2) .nil))) .nil))) (.v 2)))
def c_subtree_of (p_need_node : G.Spec) (p_path_of : G.Spec) : S := (.seq (c_subtree_of_1 p_need_node p_path_of) (c_subtree_of_2 p_need_node p_path_of))
def c_marked_nodes_1 (p_path_of : G.Spec) : S := (.asg (.nm 2) (.app sList .nil))
def c_marked_nodes_2 (p_path_of : G.Spec) : S := (.asg (.nm 2) (.app sAdd (.cons (.v 2) (.cons (.app sCutHi (.cons (.app p_path_of (.cons (.v 0) (.cons (.v 3) .nil))) (.cons (.app sNeg (.cons (.c (.int 1)) .nil)) .nil))) .nil))))
def c_marked_nodes_3 (p_path_of : G.Spec) : S := (.fr (.nm 3) iSeq (.cons (.v 1) .nil) (c_marked_nodes_2 p_path_of))
def c_marked_nodes_4 (p_path_of : G.Spec) : S := (.ret (.app sSortSet (.cons (.v 2) .nil)))
def c_marked_nodes (p_path_of : G.Spec) : S := (.seq (c_marked_nodes_1 p_path_of) (.seq (c_marked_nodes_3 p_path_of) (c_marked_nodes_4 p_path_of)))
def c_forest_after_1 (p_marked_nodes : G.Spec) (p_root_of : G.Spec) : S := (.asg (.nm 2) (.app p_marked_nodes (.cons (.v 0) (.cons (.v 1) .nil))))
def c_forest_after_2 (p_marked_nodes : G.Spec) (p_root_of : G.Spec) : S := (.ret (.app sTupOf (.cons (.comp false [3, 4] (.tup (.cons (.nm 3) (.cons (.nm 4) .nil))) iEnum (.cons (.v 0) .nil) (.c (.bl true)) (.ite (.app sIn (.cons (.v 3) (.cons (.v 2) .nil))) (.app p_root_of (.cons (.v 0) (.cons (.v 3) .nil))) (.v 4))) .nil)))
def c_forest_after (p_marked_nodes : G.Spec) (p_root_of : G.Spec) : S := (.seq (c_forest_after_1 p_marked_nodes p_root_of) (c_forest_after_2 p_marked_nodes p_root_of))
def c_total_cost_1 (p_depth_of : G.Spec) (p_marked_nodes : G.Spec) : S := (.asg (.nm 2) (.comp false [3] (.nm 3) iSeq (.cons (.app p_marked_nodes (.cons (.v 0) (.cons (.v 1) .nil))) .nil) (.app sGt (.cons (.app p_depth_of (.cons (.v 0) (.cons (.v 3) .nil))) (.cons (.c (.int 1)) .nil))) (.v 3)))
def c_total_cost_2 (p_depth_of : G.Spec) (p_marked_nodes : G.Spec) : S := (.ret (.app sAdd (.cons (.app sLen (.cons (.v 2) .nil)) (.cons (.app sLen (.cons (.comp false [3] (.nm 3) iSeq (.cons (.v 1) .nil) (.app sNe (.cons (.app sIx (.cons (.v 0) (.cons (.v 3) .nil))) (.cons (.v 3) .nil))) (.v 3)) .nil)) .nil))))
def c_total_cost (p_depth_of : G.Spec) (p_marked_nodes : G.Spec) : S := (.seq (c_total_cost_1 p_depth_of p_marked_nodes) (c_total_cost_2 p_depth_of p_marked_nodes))
def c_check_pair_1 : S := (.ite (.app sNe (.cons (.app sLen (.cons (.v 0) .nil)) (.cons (.app sLen (.cons (.v 1) .nil)) .nil))) G.stuck .skip)
def c_check_pair_2 : S := (.asg (.nm 2) (.comp false [3] (.nm 3) iRng1 (.cons (.app sLen (.cons (.v 0) .nil)) .nil) (.app sNe (.cons (.app sEq (.cons (.app sIx (.cons (.v 0) (.cons (.v 3) .nil))) (.cons (.v 3) .nil))) (.cons (.app sEq (.cons (.app sIx (.cons (.v 1) (.cons (.v 3) .nil))) (.cons (.v 3) .nil))) .nil))) (.v 3)))
def c_check_pair_3 : S := (.ite (.app sNe (.cons (.v 2) (.cons (.app sList .nil) .nil))) G.stuck .skip)
def c_check_pair : S := (.seq (c_check_pair_1) (.seq (c_check_pair_2) (c_check_pair_3)))
def c_changed_nodes_1 (p_check_pair : G.Spec) : S := (.exp (.app p_check_pair (.cons (.v 0) (.cons (.v 1) .nil))))
def c_changed_nodes_2 (p_check_pair : G.Spec) : S := (.ret (.comp false [2] (.nm 2) iRng1 (.cons (.app sLen (.cons (.v 0) .nil)) .nil) (.app sNe (.cons (.app sIx (.cons (.v 0) (.cons (.v 2) .nil))) (.cons (.app sIx (.cons (.v 1) (.cons (.v 2) .nil))) .nil))) (.v 2)))
def c_changed_nodes (p_check_pair : G.Spec) : S := (.seq (c_changed_nodes_1 p_check_pair) (c_changed_nodes_2 p_check_pair))
def c_bar_of_1 (p_path_of : G.Spec) : S := (.asg (.tup (.cons (.nm 3) (.cons (.nm 4) .nil))) (.app (sStar 2 0) (.cons (.app p_path_of (.cons (.v 0) (.cons (.v 2) .nil))) .nil)))
def c_bar_of_2 (p_path_of : G.Spec) : S := (.asg (.nm 5) (.comp false [6] (.nm 6) iSeq (.cons (.v 3) .nil) (.app sNe (.cons (.app sIx (.cons (.v 1) (.cons (.v 6) .nil))) (.cons (.v 4) .nil))) (.v 6)))
def c_bar_of_3 (p_path_of : G.Spec) : S := (.ret (.ite (.app sNe (.cons (.v 5) (.cons (.app sList .nil) .nil))) (.app sIx (.cons (.v 5) (.cons (.c (.int 0)) .nil))) (.c .non)))
def c_bar_of (p_path_of : G.Spec) : S := (.seq (c_bar_of_1 p_path_of) (.seq (c_bar_of_2 p_path_of) (c_bar_of_3 p_path_of)))
def c_find_bar_1 (p_bar_of : G.Spec) (p_changed_nodes : G.Spec) : S := (.asg (.nm 2) (.comp false [3] (.nm 3) iSeq (.cons (.app p_changed_nodes (.cons (.v 0) (.cons (.v 1) .nil))) .nil) (.c (.bl true)) (.app sTup (.cons (.v 3) (.cons (.app p_bar_of (.cons (.v 0) (.cons (.v 1) (.cons (.v 3) .nil)))) .nil)))))
def c_find_bar_2 (p_bar_of : G.Spec) (p_changed_nodes : G.Spec) : S := (.asg (.nm 2) (.comp false [4] (.nm 4) iSeq (.cons (.v 2) .nil) (.app sNotN (.cons (.app sIx (.cons (.v 4) (.cons (.c (.int 1)) .nil))) (.cons (.c .non) .nil))) (.v 4)))
def c_find_bar_3 (p_bar_of : G.Spec) (p_changed_nodes : G.Spec) : S := (.ret (.ite (.app sNe (.cons (.v 2) (.cons (.app sList .nil) .nil))) (.app sIx (.cons (.v 2) (.cons (.c (.int 0)) .nil))) (.c .non)))
def c_find_bar (p_bar_of : G.Spec) (p_changed_nodes : G.Spec) : S := (.seq (c_find_bar_1 p_bar_of p_changed_nodes) (.seq (c_find_bar_2 p_bar_of p_changed_nodes) (c_find_bar_3 p_bar_of p_changed_nodes)))
def c_needed_finds_1 (p_changed_nodes : G.Spec) (p_find_bar : G.Spec) (p_subtree_of : G.Spec) : S := (.asg (.nm 2) (.app p_changed_nodes (.cons (.v 0) (.cons (.v 1) .nil))))
def c_needed_finds_2 (p_changed_nodes : G.Spec) (p_find_bar : G.Spec) (p_subtree_of : G.Spec) : S := (.asg (.nm 3) (.app p_find_bar (.cons (.v 0) (.cons (.v 1) .nil))))
def c_needed_finds_3 (p_changed_nodes : G.Spec) (p_find_bar : G.Spec) (p_subtree_of : G.Spec) : S := (.ite (.app sNotN (.cons (.v 3) (.cons (.c .non) .nil))) G.stuck .skip)
def c_needed_finds_4 (p_changed_nodes : G.Spec) (p_find_bar : G.Spec) (p_subtree_of : G.Spec) : S := (.ret (.comp false [4] (.nm 4) iSeq (.cons (.v 2) .nil) (.app sEq (.cons (.app sLen (.cons (.comp false [5] (.nm 5) iSeq (.cons (.app p_subtree_of (.cons (.v 0) (.cons (.v 4) .nil))) .nil) (.app sIn (.cons (.v 5) (.cons (.v 2) .nil))) (.v 5)) .nil)) (.cons (.c (.int 1)) .nil))) (.v 4)))
def c_needed_finds (p_changed_nodes : G.Spec) (p_find_bar : G.Spec) (p_subtree_of : G.Spec) : S := (.seq (c_needed_finds_1 p_changed_nodes p_find_bar p_subtree_of) (.seq (c_needed_finds_2 p_changed_nodes p_find_bar p_subtree_of) (.seq (c_needed_finds_3 p_changed_nodes p_find_bar p_subtree_of) (c_needed_finds_4 p_changed_nodes p_find_bar p_subtree_of))))
def c_way_cost_1 (p_needed_finds : G.Spec) (p_total_cost : G.Spec) : S := (.ret (.app p_total_cost (.cons (.v 0) (.cons (.app p_needed_finds (.cons (.v 0) (.cons (.v 1) .nil))) .nil))))
def c_way_cost (p_needed_finds : G.Spec) (p_total_cost : G.Spec) : S := (c_way_cost_1 p_needed_finds p_total_cost)
def c_l_find_1 (p__law_root : G.Spec) : S := (.asg (.tup (.cons (.nm 2) (.cons (.nm 3) (.cons (.nm 4) .nil)))) (.app sTup (.cons (.app sListOfM (.cons (.v 0) .nil)) (.cons (.c (.int 0)) (.cons (.v 1) .nil)))))
def c_l_find_2 (p__law_root : G.Spec) : S := (.asg (.nm 5) (.app p__law_root (.cons (.v 0) (.cons (.v 1) .nil))))
def c_l_find_3 (p__law_root : G.Spec) : S := (.asg (.nm 7) (.app sIx (.cons (.v 0) (.cons (.v 4) .nil))))
def c_l_find_4 (p__law_root : G.Spec) : S := (.exp (.app sSetIx (.cons (.v 5) (.cons (.v 2) (.cons (.v 4) .nil)))))
def c_l_find_5 (p__law_root : G.Spec) : S := (.asg (.tup (.cons (.nm 4) (.cons (.nm 3) .nil))) (.app sTup (.cons (.v 7) (.cons (.app sAdd (.cons (.v 3) (.cons (.c (.int 1)) .nil))) .nil))))
def c_l_find_6 (p__law_root : G.Spec) : S := (.ite (.app sNe (.cons (.v 4) (.cons (.v 5) .nil))) (.seq (c_l_find_3 p__law_root) (.seq (c_l_find_4 p__law_root) (c_l_find_5 p__law_root))) .skip)
def c_l_find_7 (p__law_root : G.Spec) : S := (.fr (.nm 6) iRng1 (.cons (.app sLen (.cons (.v 0) .nil)) .nil) (c_l_find_6 p__law_root))
def c_l_find_8 (p__law_root : G.Spec) : S := (.ret (.app sTup (.cons (.app sTupOf (.cons (.v 2) .nil)) (.cons (.v 3) .nil))))
def c_l_find (p__law_root : G.Spec) : S := (.seq (c_l_find_1 p__law_root) (.seq (c_l_find_2 p__law_root) (.seq (c_l_find_7 p__law_root) (c_l_find_8 p__law_root))))
def c_l_strange_1 (p__law_of : G.Spec) (p__law_take : G.Spec) : S := (.ret (.app p__law_of (.cons (.v 0) (.cons (.app sList (.cons (.v 1) (.cons (.app sSub (.cons (.c (.int 0)) (.cons (.c (.int 1)) .nil))) (.cons (.app sAdd (.cons (.v 1) (.cons (.app p__law_take (.cons (.v 0) (.cons (.app sPow (.cons (.c (.int 10)) (.cons (.c (.int 9)) .nil))) .nil))) .nil))) (.cons (.app sSub (.cons (.app sSub (.cons (.c (.int 0)) (.cons (.c (.int 1)) .nil))) (.cons (.app p__law_take (.cons (.v 0) (.cons (.app sPow (.cons (.c (.int 10)) (.cons (.c (.int 9)) .nil))) .nil))) .nil))) .nil))))) .nil))))
def c_l_strange (p__law_of : G.Spec) (p__law_take : G.Spec) : S := (c_l_strange_1 p__law_of p__law_take)
def c_l_found_1 (p__law_find : G.Spec) : S := (.asg (.nm 2) (.app sListM .nil))
def c_l_found_2 (p__law_find : G.Spec) : S := (.asg (.tup (.cons (.nm 0) (.cons (.nm 4) .nil))) (.app p__law_find (.cons (.v 0) (.cons (.v 3) .nil))))
def c_l_found_3 (p__law_find : G.Spec) : S := (.exp (.meth chkL sAppend (.v 2) (.cons (.v 4) .nil)))
def c_l_found_4 (p__law_find : G.Spec) : S := (.fr (.nm 3) iSeq (.cons (.v 1) .nil) (.seq (c_l_found_2 p__law_find) (c_l_found_3 p__law_find)))
def c_l_found_5 (p__law_find : G.Spec) : S := (.ret (.app sTup (.cons (.v 0) (.cons (.v 2) .nil))))
def c_l_found (p__law_find : G.Spec) : S := (.seq (c_l_found_1 p__law_find) (.seq (c_l_found_4 p__law_find) (.seq (.frz 2) (c_l_found_5 p__law_find))))
def c_need_root_1 (p_need_node : G.Spec) : S := (.exp (.app p_need_node (.cons (.v 0) (.cons (.v 1) .nil))))
def c_need_root_2 (p_need_node : G.Spec) : S := (.ite (.app sNe (.cons (.app sIx (.cons (.v 0) (.cons (.v 1) .nil))) (.cons (.v 1) .nil))) G.stuck .skip)
def c_need_root (p_need_node : G.Spec) : S := (.seq (c_need_root_1 p_need_node) (c_need_root_2 p_need_node))
def c_link_1 (p_compressed : G.Spec) (p_need_root : G.Spec) : S := (.exp (.app p_need_root (.cons (.v 0) (.cons (.v 1) .nil))))
def c_link_2 (p_compressed : G.Spec) (p_need_root : G.Spec) : S := (.exp (.app p_need_root (.cons (.v 0) (.cons (.v 2) .nil))))
def c_link_3 (p_compressed : G.Spec) (p_need_root : G.Spec) : S := (.ite (.app sEq (.cons (.v 1) (.cons (.v 2) .nil))) G.stuck .skip)
def c_link_4 (p_compressed : G.Spec) (p_need_root : G.Spec) : S := (.ret (.app p_compressed (.cons (.v 0) (.cons (.app sList (.cons (.v 1) .nil)) (.cons (.v 2) .nil)))))
def c_link (p_compressed : G.Spec) (p_need_root : G.Spec) : S := (.seq (c_link_1 p_compressed p_need_root) (.seq (c_link_2 p_compressed p_need_root) (.seq (c_link_3 p_compressed p_need_root) (c_link_4 p_compressed p_need_root))))
def c_l_linked_1 : S := (.ret (.app sTup (.cons (.c .non) (.cons (.c (.str "NoNode")) (.cons (.v 3) .nil)))))
def c_l_linked_2 : S := (.ite (.app sNot (.cons (.chain sLe sLt (.c (.int 0)) (.v 3) (.app sLen (.cons (.v 0) .nil))) .nil)) (c_l_linked_1) .skip)
def c_l_linked_3 : S := (.ret (.app sTup (.cons (.c .non) (.cons (.c (.str "NotRoot")) (.cons (.v 3) .nil)))))
def c_l_linked_4 : S := (.ite (.app sNe (.cons (.app sIx (.cons (.v 0) (.cons (.v 3) .nil))) (.cons (.v 3) .nil))) (c_l_linked_3) .skip)
def c_l_linked_5 : S := (.fr (.nm 3) iSeq (.cons (.app sTup (.cons (.v 1) (.cons (.v 2) .nil))) .nil) (.seq (c_l_linked_2) (c_l_linked_4)))
def c_l_linked_6 : S := (.ret (.app sTup (.cons (.c .non) (.cons (.c (.str "SameRoot")) (.cons (.v 1) .nil)))))
def c_l_linked_7 : S := (.ite (.app sEq (.cons (.v 1) (.cons (.v 2) .nil))) (c_l_linked_6) .skip)
def c_l_linked_8 : S := (.ret (.app sTup (.cons (.app sTupOf (.cons (.comp false [3] (.nm 3) iRng1 (.cons (.app sLen (.cons (.v 0) .nil)) .nil) (.c (.bl true)) (.ite (.app sEq (.cons (.v 3) (.cons (.v 1) .nil))) (.v 2) (.app sIx (.cons (.v 0) (.cons (.v 3) .nil))))) .nil)) (.cons (.c (.str "")) (.cons (.c .non) .nil)))))
def c_l_linked : S := (.seq (c_l_linked_5) (.seq (c_l_linked_7) (c_l_linked_8)))
def c_unite_1 (p_find : G.Spec) (p_link : G.Spec) (p_need_node : G.Spec) (p_root_of : G.Spec) : S := (.exp (.app p_need_node (.cons (.v 0) (.cons (.v 1) .nil))))
def c_unite_2 (p_find : G.Spec) (p_link : G.Spec) (p_need_node : G.Spec) (p_root_of : G.Spec) : S := (.exp (.app p_need_node (.cons (.v 0) (.cons (.v 2) .nil))))
def c_unite_3 (p_find : G.Spec) (p_link : G.Spec) (p_need_node : G.Spec) (p_root_of : G.Spec) : S := (.asg (.tup (.cons (.nm 0) (.cons (.nm 3) .nil))) (.app p_find (.cons (.v 0) (.cons (.v 1) .nil))))
def c_unite_4 (p_find : G.Spec) (p_link : G.Spec) (p_need_node : G.Spec) (p_root_of : G.Spec) : S := (.asg (.tup (.cons (.nm 0) (.cons (.nm 4) .nil))) (.app p_find (.cons (.v 0) (.cons (.v 2) .nil))))
def c_unite_5 (p_find : G.Spec) (p_link : G.Spec) (p_need_node : G.Spec) (p_root_of : G.Spec) : S := (.asg (.tup (.cons (.nm 5) (.cons (.nm 6) .nil))) (.app sTup (.cons (.app p_root_of (.cons (.v 0) (.cons (.v 1) .nil))) (.cons (.app p_root_of (.cons (.v 0) (.cons (.v 2) .nil))) .nil))))
def c_unite_6 (p_find : G.Spec) (p_link : G.Spec) (p_need_node : G.Spec) (p_root_of : G.Spec) : S := (.ret (.app sTup (.cons (.ite (.app sEq (.cons (.v 5) (.cons (.v 6) .nil))) (.v 0) (.app p_link (.cons (.v 0) (.cons (.v 5) (.cons (.v 6) .nil))))) (.cons (.app sAdd (.cons (.v 3) (.cons (.v 4) .nil))) .nil))))
def c_unite (p_find : G.Spec) (p_link : G.Spec) (p_need_node : G.Spec) (p_root_of : G.Spec) : S := (.seq (c_unite_1 p_find p_link p_need_node p_root_of) (.seq (c_unite_2 p_find p_link p_need_node p_root_of) (.seq (c_unite_3 p_find p_link p_need_node p_root_of) (.seq (c_unite_4 p_find p_link p_need_node p_root_of) (.seq (c_unite_5 p_find p_link p_need_node p_root_of) (c_unite_6 p_find p_link p_need_node p_root_of))))))
def c_flattened_1 (p_path_of : G.Spec) : S := (.ret (.app sTupOf (.cons (.comp false [1] (.nm 1) iRng1 (.cons (.app sLen (.cons (.v 0) .nil)) .nil) (.c (.bl true)) (.app sIx (.cons (.app p_path_of (.cons (.v 0) (.cons (.v 1) .nil))) (.cons (.app sNeg (.cons (.c (.int 1)) .nil)) .nil)))) .nil)))
def c_flattened (p_path_of : G.Spec) : S := (c_flattened_1 p_path_of)
def c_flattening_finds_1 (p_flattened : G.Spec) (p_needed_finds : G.Spec) : S := (.ret (.app p_needed_finds (.cons (.v 0) (.cons (.app p_flattened (.cons (.v 0) .nil)) .nil))))
def c_flattening_finds (p_flattened : G.Spec) (p_needed_finds : G.Spec) : S := (c_flattening_finds_1 p_flattened p_needed_finds)
def c_roots_of_1 : S := (.ret (.comp false [1, 2] (.tup (.cons (.nm 1) (.cons (.nm 2) .nil))) iEnum (.cons (.v 0) .nil) (.app sEq (.cons (.v 2) (.cons (.v 1) .nil))) (.v 1)))
def c_roots_of : S := (c_roots_of_1)
end G

/-! GFor: forests as lists of parents; paths; finds. Plain mathematics. -/
namespace G
def par (p : List Nat) (i : Nat) : Nat := p.getD i i
/-- following parents comes to an end -/
def FoOk (p : List Nat) : Prop := ∃ r : Nat → Nat, ∀ i, i < p.length → par p i < p.length ∧ r i < p.length ∧ (par p i = i ∨ r (par p i) < r i)
def pth (p : List Nat) : Nat → Nat → List Nat
  | 0, i => [i]
  | f + 1, i => if par p i = i then [i] else i :: pth p f (par p i)
def path (p : List Nat) (i : Nat) : List Nat := pth p p.length i
def root (p : List Nat) (i : Nat) : Nat := (path p i).getLastD i
section
variable {p : List Nat}
theorem pth_fuel {r : Nat → Nat} (h : ∀ i, i < p.length → par p i < p.length ∧ r i < p.length ∧ (par p i = i ∨ r (par p i) < r i)) : ∀ (f g i : Nat), i < p.length → r i ≤ f → r i ≤ g → pth p f i = pth p g i := by
  intro f
  induction f with
  | zero =>
    intro g i hi hf _
    have e : par p i = i := by
      rcases (h i hi).2.2 with e | e
      · exact e
      · omega
    cases g with
    | zero => rfl
    | succ g => simp [pth, e]
  | succ f ih =>
    intro g i hi hf hg
    by_cases e : par p i = i
    · cases g with
      | zero => simp [pth, e]
      | succ g => simp [pth, e]
    · have h2 := ((h i hi).2.2).resolve_left e
      cases g with
      | zero => omega
      | succ g =>
        simp only [pth, if_neg e]
        rw [ih g (par p i) (h i hi).1 (by omega) (by omega)]
theorem path_eq (h : FoOk p) {i : Nat} (hi : i < p.length) : path p i = if par p i = i then [i] else i :: path p (par p i) := by
  obtain ⟨r, hr⟩ := h
  unfold path
  cases e : p.length with
  | zero => omega
  | succ n =>
    rw [show pth p (n + 1) i = if par p i = i then [i] else i :: pth p n (par p i) from rfl]
    by_cases e2 : par p i = i
    · rw [if_pos e2, if_pos e2]
    · rw [if_neg e2, if_neg e2]
      have h2 := ((hr i hi).2.2).resolve_left e2
      have h3 := (hr i hi).2.1
      rw [pth_fuel hr n (n + 1) (par p i) (hr i hi).1 (by omega) (by omega)]
theorem path_root {i : Nat} (h : FoOk p) (hi : i < p.length) (e : par p i = i) : path p i = [i] := by rw [path_eq h hi, if_pos e]
theorem path_step {i : Nat} (h : FoOk p) (hi : i < p.length) (e : par p i ≠ i) : path p i = i :: path p (par p i) := by rw [path_eq h hi, if_neg e]
theorem par_lt (h : FoOk p) {i : Nat} (hi : i < p.length) : par p i < p.length := by
  obtain ⟨r, hr⟩ := h
  exact (hr i hi).1
/-- induction up the path -/
theorem up_ind (h : FoOk p) {M : Nat → Prop} (hb : ∀ i, i < p.length → par p i = i → M i) (hs : ∀ i, i < p.length → par p i ≠ i → M (par p i) → M i) : ∀ i, i < p.length → M i := by
  obtain ⟨r, hr⟩ := h
  have : ∀ n i, i < p.length → r i ≤ n → M i := by
    intro n
    induction n with
    | zero =>
      intro i hi hn
      rcases (hr i hi).2.2 with e | e
      · exact hb i hi e
      · omega
    | succ n ih =>
      intro i hi hn
      by_cases e : par p i = i
      · exact hb i hi e
      · have := ((hr i hi).2.2).resolve_left e
        exact hs i hi e (ih (par p i) (hr i hi).1 (by omega))
  exact fun i hi => this (r i) i hi (Nat.le_refl _)
theorem path_ne (i : Nat) : path p i ≠ [] := by
  unfold path
  cases p.length with
  | zero => simp [pth]
  | succ n =>
    simp only [pth]
    split <;> simp
theorem root_root (h : FoOk p) {i : Nat} (hi : i < p.length) (e : par p i = i) : root p i = i := by
  unfold root
  rw [path_root h hi e]
  rfl
theorem getLastD_any {α : Type} {a b : α} : ∀ {l : List α}, l ≠ [] → l.getLastD a = l.getLastD b
  | [], h => absurd rfl h
  | x :: l, _ => by simp [List.getLast?_cons]
theorem root_step (h : FoOk p) {i : Nat} (hi : i < p.length) (e : par p i ≠ i) : root p i = root p (par p i) := by
  unfold root
  rw [path_step h hi e]
  have ne := path_ne (p := p) (par p i)
  cases hp : path p (par p i) with
  | nil => exact absurd hp ne
  | cons x l => simp [List.getLast?_cons]
theorem root_lt (h : FoOk p) : ∀ i, i < p.length → root p i < p.length ∧ par p (root p i) = root p i :=
  up_ind h (fun i hi e => by rw [root_root h hi e]; exact ⟨hi, e⟩) fun i hi e ih => by rw [root_step h hi e]; exact ih
theorem path_lt (h : FoOk p) : ∀ i, i < p.length → ∀ j ∈ path p i, j < p.length :=
  up_ind h (fun i hi e j hj => by
    rw [path_root h hi e] at hj
    rw [List.mem_singleton.mp hj]
    exact hi) fun i hi e ih j hj => by
    rw [path_step h hi e] at hj
    rcases List.mem_cons.mp hj with z | z
    · rw [z]
      exact hi
    · exact ih j z
theorem root_in (h : FoOk p) : ∀ i, i < p.length → ∀ j ∈ path p i, root p j = root p i :=
  up_ind h (fun i hi e j hj => by
    rw [path_root h hi e] at hj
    rw [List.mem_singleton.mp hj]) fun i hi e ih j hj => by
    rw [path_step h hi e] at hj
    rcases List.mem_cons.mp hj with z | z
    · rw [z]
    · rw [ih j z, root_step h hi e]
theorem path_last (i : Nat) (xs : List Nat) (x : Nat) (e : path p i = xs ++ [x]) : root p i = x := by
  unfold root
  rw [e]
  simp
theorem mem_self (h : FoOk p) {i : Nat} (hi : i < p.length) : i ∈ path p i := by
  rw [path_eq h hi]
  split <;> simp
theorem root_mem (h : FoOk p) : ∀ i, i < p.length → root p i ∈ path p i :=
  up_ind h (fun i hi e => by rw [root_root h hi e]; exact mem_self h hi) fun i hi e ih => by
    rw [root_step h hi e, path_step h hi e]
    exact List.mem_cons_of_mem _ ih
/-- what is on the path is above -/
theorem rank_path {r : Nat → Nat} (hr : ∀ i, i < p.length → par p i < p.length ∧ r i < p.length ∧ (par p i = i ∨ r (par p i) < r i)) : ∀ i, i < p.length → ∀ j ∈ path p i, j = i ∨ r j < r i := by
  have h : FoOk p := ⟨r, hr⟩
  refine up_ind h (fun i hi e j hj => ?_) fun i hi e ih j hj => ?_
  · rw [path_root h hi e] at hj
    exact .inl (List.mem_singleton.mp hj)
  · rw [path_step h hi e] at hj
    rcases List.mem_cons.mp hj with z | z
    · exact .inl z
    · have h2 := ((hr i hi).2.2).resolve_left e
      rcases ih j z with z | z
      · rw [z]
        exact .inr h2
      · exact .inr (by omega)
theorem path_nodup (h : FoOk p) : ∀ i, i < p.length → (path p i).Nodup := by
  obtain ⟨r, hr⟩ := h
  have h : FoOk p := ⟨r, hr⟩
  refine up_ind h (fun i hi e => ?_) fun i hi e ih => ?_
  · rw [path_root h hi e]
    simp
  · rw [path_step h hi e]
    refine List.nodup_cons.mpr ⟨fun z => ?_, ih⟩
    have h2 := ((hr i hi).2.2).resolve_left e
    rcases rank_path hr (par p i) (hr i hi).1 i z with z | z
    · exact e z.symm
    · omega
theorem path_len {r : Nat → Nat} (hr : ∀ i, i < p.length → par p i < p.length ∧ r i < p.length ∧ (par p i = i ∨ r (par p i) < r i)) : ∀ i, i < p.length → (path p i).length ≤ r i + 1 := by
  have h : FoOk p := ⟨r, hr⟩
  refine up_ind h (fun i hi e => ?_) fun i hi e ih => ?_
  · rw [path_root h hi e]
    simp
  · rw [path_step h hi e]
    have h2 := ((hr i hi).2.2).resolve_left e
    simp
    omega
theorem path_le (h : FoOk p) {i : Nat} (hi : i < p.length) : (path p i).length ≤ p.length := by
  obtain ⟨r, hr⟩ := h
  have := path_len hr i hi
  have := (hr i hi).2.1
  omega
end
/-! ### a find -/
def cmp (p xs : List Nat) (t : Nat) : List Nat := (List.range p.length).map fun i => if i ∈ xs then t else par p i
def fnd (p : List Nat) (i : Nat) : List Nat := cmp p (path p i) (root p i)
def cst (p : List Nat) (i : Nat) : Nat := (path p i).length - 1
theorem cmp_len {p xs : List Nat} {t : Nat} : (cmp p xs t).length = p.length := by simp [cmp]
theorem cmp_par {p xs : List Nat} {t i : Nat} (hi : i < p.length) : par (cmp p xs t) i = if i ∈ xs then t else par p i := by
  unfold par cmp
  rw [List.getD_eq_getElem?_getD, List.getElem?_map, List.getElem?_range hi]
  rfl
/-- the nodes of M hang on their roots -/
def flt (p : List Nat) (M : Nat → Bool) : List Nat := (List.range p.length).map fun i => if M i then root p i else par p i
theorem flt_len {p : List Nat} {M : Nat → Bool} : (flt p M).length = p.length := by simp [flt]
theorem flt_par {p : List Nat} {M : Nat → Bool} {i : Nat} (hi : i < p.length) : par (flt p M) i = if M i then root p i else par p i := by
  unfold par flt
  rw [List.getD_eq_getElem?_getD, List.getElem?_map, List.getElem?_range hi]
  rfl
theorem ext_par {p q : List Nat} (hl : p.length = q.length) (h : ∀ i, i < p.length → par p i = par q i) : p = q := by
  refine List.ext_getElem hl fun i h1 h2 => ?_
  have := h i h1
  unfold par at this
  rw [List.getD_eq_getElem?_getD, List.getD_eq_getElem?_getD, List.getElem?_eq_getElem h1, List.getElem?_eq_getElem h2] at this
  exact this
theorem flt_none {p : List Nat} : flt p (fun _ => false) = p := ext_par flt_len fun i hi => by
  rw [flt_len] at hi
  rw [flt_par hi]
  rfl
/-- M is closed upwards and has no root -/
structure MOk (p : List Nat) (M : Nat → Bool) : Prop where
  nr : ∀ i, i < p.length → M i = true → par p i ≠ i
  up : ∀ i, i < p.length → M i = true → M (par p i) = true ∨ par p (par p i) = par p i
section
variable {p : List Nat} {M : Nat → Bool}
theorem rank_root {r : Nat → Nat} (hr : ∀ i, i < p.length → par p i < p.length ∧ r i < p.length ∧ (par p i = i ∨ r (par p i) < r i)) {i : Nat} (hi : i < p.length) (e : par p i ≠ i) : r (root p i) < r i := by
  have h : FoOk p := ⟨r, hr⟩
  rcases rank_path hr i hi _ (root_mem h i hi) with z | z
  · exact absurd (by have := (root_lt h i hi).2; rw [z] at this; exact this) e
  · exact z
theorem flt_fo (h : FoOk p) (hM : MOk p M) : FoOk (flt p M) := by
  obtain ⟨r, hr⟩ := h
  have h : FoOk p := ⟨r, hr⟩
  refine ⟨r, fun i hi => ?_⟩
  rw [flt_len] at hi ⊢
  rw [flt_par hi]
  cases e : M i with
  | true => exact ⟨(root_lt h i hi).1, (hr i hi).2.1, .inr (rank_root hr hi (hM.nr i hi e))⟩
  | false => exact hr i hi
theorem flt_root (h : FoOk p) (hM : MOk p M) : ∀ i, i < p.length → root (flt p M) i = root p i := by
  have hf := flt_fo h hM
  refine up_ind h (fun i hi e => ?_) fun i hi e ih => ?_
  · have e2 : par (flt p M) i = i := by
      rw [flt_par hi, e, root_root h hi e]
      split <;> rfl
    rw [root_root hf (by rw [flt_len]; exact hi) e2, root_root h hi e]
  · have hi2 : i < (flt p M).length := by rw [flt_len]; exact hi
    cases eM : M i with
    | true =>
      have e2 : par (flt p M) i = root p i := by rw [flt_par hi, eM]; rfl
      have hl := root_lt h i hi
      have ne : root p i ≠ i := fun z => e (by rw [z] at hl; exact hl.2)
      rw [root_step hf hi2 (by rw [e2]; exact ne), e2]
      have e3 : par (flt p M) (root p i) = root p i := by
        rw [flt_par hl.1, hl.2, root_root h hl.1 hl.2]
        split <;> rfl
      exact root_root hf (by rw [flt_len]; exact hl.1) e3
    | false =>
      have e2 : par (flt p M) i = par p i := by rw [flt_par hi, eM]; rfl
      rw [root_step hf hi2 (by rw [e2]; exact e), e2, ih, root_step h hi e]
/-- the path in the changed forest -/
theorem flt_path_root (h : FoOk p) (hM : MOk p M) {i : Nat} (hi : i < p.length) (e : par p i = i) : path (flt p M) i = [i] := by
  refine path_root (flt_fo h hM) (by rw [flt_len]; exact hi) ?_
  rw [flt_par hi, e, root_root h hi e]
  split <;> rfl
theorem flt_path_in (h : FoOk p) (hM : MOk p M) {i : Nat} (hi : i < p.length) (e : M i = true) : path (flt p M) i = [i, root p i] := by
  have hl := root_lt h i hi
  have e2 : par (flt p M) i = root p i := by rw [flt_par hi, e]; rfl
  have ne : root p i ≠ i := fun z => hM.nr i hi e (by rw [z] at hl; exact hl.2)
  rw [path_step (flt_fo h hM) (by rw [flt_len]; exact hi) (by rw [e2]; exact ne), e2, flt_path_root h hM hl.1 hl.2]
theorem flt_path_out (h : FoOk p) (hM : MOk p M) {i : Nat} (hi : i < p.length) (e : M i = false) (ne : par p i ≠ i) : path (flt p M) i = i :: path (flt p M) (par p i) := by
  have e2 : par (flt p M) i = par p i := by rw [flt_par hi, e]; rfl
  rw [path_step (flt_fo h hM) (by rw [flt_len]; exact hi) (by rw [e2]; exact ne), e2]
theorem up_all (h : FoOk p) (hM : MOk p M) : ∀ i, i < p.length → M i = true → ∀ j ∈ path p i, j ≠ root p i → M j = true := by
  refine up_ind h (fun i hi e hm => absurd e (hM.nr i hi hm)) fun i hi e ih hm j hj ne => ?_
  rw [path_step h hi e] at hj
  rcases List.mem_cons.mp hj with z | z
  · rw [z]
    exact hm
  · rw [root_step h hi e] at ne
    have hp := par_lt h hi
    rcases hM.up i hi hm with m | m
    · exact ih m j z ne
    · rw [path_root h hp m] at z
      rw [root_root h hp m] at ne
      exact absurd (List.mem_singleton.mp z) ne
theorem flt_path_sub (h : FoOk p) (hM : MOk p M) : ∀ i, i < p.length → ∀ j ∈ path (flt p M) i, j ∈ path p i := by
  refine up_ind h (fun i hi e j hj => ?_) fun i hi e ih j hj => ?_
  · rw [flt_path_root h hM hi e] at hj
    rw [path_root h hi e]
    exact hj
  · cases eM : M i with
    | true =>
      rw [flt_path_in h hM hi eM] at hj
      rcases List.mem_cons.mp hj with z | z
      · rw [z]
        exact mem_self h hi
      · rw [List.mem_singleton.mp z]
        exact root_mem h i hi
    | false =>
      rw [flt_path_out h hM hi eM e] at hj
      rw [path_step h hi e]
      rcases List.mem_cons.mp hj with z | z
      · rw [z]
        exact List.mem_cons_self
      · exact List.mem_cons_of_mem _ (ih j z)
theorem flt_path_or (h : FoOk p) (hM : MOk p M) : ∀ i, i < p.length → ∀ j ∈ path p i, j ∈ path (flt p M) i ∨ M j = true := by
  refine up_ind h (fun i hi e j hj => ?_) fun i hi e ih j hj => ?_
  · rw [path_root h hi e] at hj
    rw [flt_path_root h hM hi e]
    exact .inl hj
  · cases eM : M i with
    | true =>
      by_cases ne : j = root p i
      · rw [flt_path_in h hM hi eM, ne]
        exact .inl (by simp)
      · exact .inr (up_all h hM i hi eM j hj ne)
    | false =>
      rw [flt_path_out h hM hi eM e]
      rw [path_step h hi e] at hj
      rcases List.mem_cons.mp hj with z | z
      · exact .inl (by rw [z]; exact List.mem_cons_self)
      · rcases ih j z with z | z
        · exact .inl (List.mem_cons_of_mem _ z)
        · exact .inr z
/-- one more find -/
def more (p : List Nat) (M : Nat → Bool) (i : Nat) : Nat → Bool := fun j => M j || (decide (j ∈ path p i) && decide (j ≠ root p i))
theorem more_ok (h : FoOk p) (hM : MOk p M) {i : Nat} (hi : i < p.length) : MOk p (more p M i) := by
  have onp : ∀ i, i < p.length → ∀ j ∈ path p i, j ≠ root p i → par p j ≠ j ∧ (par p j ∈ path p i) := by
    refine up_ind h (fun i hi e j hj ne => ?_) fun i hi e ih j hj ne => ?_
    · rw [path_root h hi e] at hj
      rw [root_root h hi e] at ne
      exact absurd (List.mem_singleton.mp hj) ne
    · rw [path_step h hi e] at hj ⊢
      rw [root_step h hi e] at ne
      rcases List.mem_cons.mp hj with z | z
      · rw [z]
        exact ⟨e, List.mem_cons_of_mem _ (mem_self h (par_lt h hi))⟩
      · have := ih j z ne
        exact ⟨this.1, List.mem_cons_of_mem _ this.2⟩
  refine ⟨fun j hj e => ?_, fun j hj e => ?_⟩
  · rcases Bool.or_eq_true_iff.mp e with m | m
    · exact hM.nr j hj m
    · have m := Bool.and_eq_true_iff.mp m
      exact (onp i hi j (of_decide_eq_true m.1) (of_decide_eq_true m.2)).1
  · rcases Bool.or_eq_true_iff.mp e with m | m
    · rcases hM.up j hj m with z | z
      · exact .inl (by unfold more; rw [z]; rfl)
      · exact .inr z
    · have m := Bool.and_eq_true_iff.mp m
      have a := onp i hi j (of_decide_eq_true m.1) (of_decide_eq_true m.2)
      by_cases z : par p j = root p i
      · right
        rw [z]
        exact (root_lt h i hi).2
      · left
        unfold more
        rw [decide_eq_true a.2, decide_eq_true z]
        simp
theorem fnd_flt (h : FoOk p) (hM : MOk p M) {i : Nat} (hi : i < p.length) : fnd (flt p M) i = flt p (more p M i) := by
  refine ext_par (by rw [fnd, cmp_len, flt_len, flt_len]) fun j hj => ?_
  rw [fnd, cmp_len, flt_len] at hj
  rw [fnd, cmp_par (by rw [flt_len]; exact hj), flt_par hj, flt_par hj, flt_root h hM i hi]
  have hl := root_lt h i hi
  by_cases hin : j ∈ path (flt p M) i
  · rw [if_pos hin]
    have hp := flt_path_sub h hM i hi j hin
    by_cases e : j = root p i
    · have m : more p M i j = false := by
        unfold more
        rw [e]
        have : M (root p i) = false := by
          cases z : M (root p i) with
          | false => rfl
          | true => exact absurd hl.2 (hM.nr _ hl.1 z)
        rw [this]
        simp
      rw [m, if_neg (by simp), e, hl.2]
    · have m : more p M i j = true := by
        unfold more
        rw [decide_eq_true hp, decide_eq_true e]
        simp
      rw [m, if_pos rfl, root_in h i hi j hp]
  · rw [if_neg hin]
    cases hm : M j with
    | true =>
      have m : more p M i j = true := by unfold more; rw [hm]; rfl
      rw [m]
    | false =>
      have m : more p M i j = false := by
        unfold more
        rw [hm]
        by_cases hp : j ∈ path p i
        · rcases flt_path_or h hM i hi j hp with z | z
          · exact absurd z hin
          · rw [hm] at z
            cases z
        · rw [decide_eq_false hp]
          rfl
      rw [m]
/-! ### costs -/
def deep (p : List Nat) (j : Nat) : Bool := decide (par p j ≠ j) && decide (par p (par p j) ≠ par p j)
def nroot (p : List Nat) (i : Nat) : Nat := if par p i = i then 0 else 1
theorem cst_flt (h : FoOk p) (hM : MOk p M) : ∀ i, i < p.length → cst (flt p M) i = (path p i).countP (fun j => !M j && deep p j) + nroot p i := by
  have rootc : ∀ i, i < p.length → par p i = i → (path p i).countP (fun j => !M j && deep p j) = 0 := fun i hi e => by
    rw [path_root h hi e]
    simp [deep, e]
  refine up_ind h (fun i hi e => ?_) fun i hi e ih => ?_
  · rw [rootc i hi e, cst, flt_path_root h hM hi e, nroot, if_pos e]
    rfl
  · have hp := par_lt h hi
    rw [nroot, if_neg e]
    cases eM : M i with
    | true =>
      rw [cst, flt_path_in h hM hi eM]
      have : (path p i).countP (fun j => !M j && deep p j) = 0 := by
        rw [List.countP_eq_zero]
        intro j hj
        by_cases ne : j = root p i
        · have hl := root_lt h i hi
          rw [ne]
          simp [deep, hl.2]
        · rw [up_all h hM i hi eM j hj ne]
          simp
      rw [this]
      rfl
    | false =>
      have ne := path_ne (p := flt p M) (par p i)
      have l0 : 0 < (path (flt p M) (par p i)).length := List.length_pos_iff.mpr ne
      have c1 : cst (flt p M) i = cst (flt p M) (par p i) + 1 := by
        unfold cst
        rw [flt_path_out h hM hi eM e, List.length_cons]
        omega
      rw [c1, ih, path_step h hi e, List.countP_cons, eM]
      by_cases e2 : par p (par p i) = par p i
      · have d : deep p i = false := by simp [deep, e2]
        rw [d, nroot, if_pos e2]
        simp
      · have d : deep p i = true := by simp [deep, e2, e]
        rw [d, nroot, if_neg e2]
        simp
/-- how many deep nodes are marked -/
def dm (p : List Nat) (M : Nat → Bool) : Nat := (List.range p.length).countP fun j => M j && deep p j
theorem countP_or {α : Type} (f g : α → Bool) (l : List α) : l.countP (fun x => f x || g x) = l.countP f + l.countP (fun x => !f x && g x) := by
  induction l with
  | nil => rfl
  | cons x l ih =>
    simp only [List.countP_cons, ih]
    cases f x <;> cases g x <;> simp <;> omega
theorem countP_sub {n : Nat} {f : Nat → Bool} : ∀ {l : List Nat}, l.Nodup → (∀ j ∈ l, j < n) → (List.range n).countP (fun j => decide (j ∈ l) && f j) = l.countP f
  | [], _, _ => by simp
  | x :: l, hn, hl => by
    have hn := List.nodup_cons.mp hn
    have ih := countP_sub (f := f) hn.2 fun j hj => hl j (List.mem_cons_of_mem _ hj)
    have e : ∀ j, (decide (j ∈ x :: l) && f j) = ((decide (j = x) && f j) || (decide (j ∈ l) && f j)) := fun j => by
      by_cases a : j = x <;> by_cases b : j ∈ l <;> simp [a, b]
    have hx : x < n := hl x List.mem_cons_self
    have one : ∀ m, x < m → (List.range m).countP (fun j => decide (j = x) && f j) = if f x then 1 else 0 := by
      intro m
      induction m with
      | zero => intro h; omega
      | succ m im =>
        intro h
        rw [List.range_succ, List.countP_append]
        by_cases e : x = m
        · have z : (List.range m).countP (fun j => decide (j = x) && f j) = 0 := by
            rw [List.countP_eq_zero]
            intro j hj
            have := List.mem_range.mp hj
            simp
            omega
          rw [z, ← e]
          cases hfx : f x <;> simp [hfx]
        · rw [im (by omega)]
          have : ¬ (m = x) := fun z => e z.symm
          simp [this]
    have e2 : (List.range n).countP (fun j => decide (j ∈ x :: l) && f j) = (List.range n).countP (fun j => (decide (j = x) && f j) || (decide (j ∈ l) && f j)) := by
      congr 1
      funext j
      exact e j
    rw [e2, countP_or, one n hx, List.countP_cons]
    have e3 : (List.range n).countP (fun j => !(decide (j = x) && f j) && (decide (j ∈ l) && f j)) = (List.range n).countP (fun j => decide (j ∈ l) && f j) := by
      congr 1
      funext j
      by_cases a : j = x
      · rw [a]
        have : x ∉ l := hn.1
        simp [this]
      · simp [a]
    rw [e3, ih]
    omega
theorem dm_more (h : FoOk p) (hM : MOk p M) {i : Nat} (hi : i < p.length) : dm p (more p M i) = dm p M + (path p i).countP (fun j => !M j && deep p j) := by
  unfold dm
  have e : ∀ j, (more p M i j && deep p j) = ((M j && deep p j) || (decide (j ∈ path p i) && deep p j)) := fun j => by
    unfold more
    by_cases z : j = root p i
    · have hl := root_lt h i hi
      have d : deep p j = false := by rw [z]; simp [deep, hl.2]
      rw [d]
      simp
    · rw [decide_eq_true z]
      cases M j <;> cases deep p j <;> simp
  have e2 : (fun j => more p M i j && deep p j) = fun j => (M j && deep p j) || (decide (j ∈ path p i) && deep p j) := funext e
  rw [e2, countP_or, ← countP_sub (path_nodup h i hi) (path_lt h i hi)]
  congr 1
  congr 1
  funext j
  cases M j <;> cases deep p j <;> simp
end
/-! ### many finds -/
def fndAll (p : List Nat) : List Nat → List Nat × List Nat
  | [] => (p, [])
  | i :: r => ((fndAll (fnd p i) r).1, cst p i :: (fndAll (fnd p i) r).2)
def mk (p : List Nat) (xs : List Nat) : Nat → Bool := fun j => xs.any fun i => decide (j ∈ path p i) && decide (j ≠ root p i)
def mores (p : List Nat) : (Nat → Bool) → List Nat → Nat → Bool
  | M, [] => M
  | M, i :: r => mores p (more p M i) r
theorem mores_eq {p : List Nat} : ∀ (xs : List Nat) (M : Nat → Bool) (j : Nat), mores p M xs j = (M j || mk p xs j)
  | [], M, j => by simp [mores, mk]
  | i :: r, M, j => by
    rw [mores, mores_eq r]
    unfold more mk
    rw [List.any_cons, Bool.or_assoc]
theorem mores_ok {p : List Nat} (h : FoOk p) : ∀ (xs : List Nat) (M : Nat → Bool), MOk p M → (∀ i ∈ xs, i < p.length) → MOk p (mores p M xs)
  | [], _, hM, _ => hM
  | i :: r, M, hM, hx => mores_ok h r _ (more_ok h hM (hx i List.mem_cons_self)) fun j hj => hx j (List.mem_cons_of_mem _ hj)
theorem fndAll_flt {p : List Nat} (h : FoOk p) : ∀ (xs : List Nat) (M : Nat → Bool), MOk p M → (∀ i ∈ xs, i < p.length) →
    (fndAll (flt p M) xs).1 = flt p (mores p M xs) ∧ (fndAll (flt p M) xs).2.sum + dm p M = dm p (mores p M xs) + (xs.map (nroot p)).sum
  | [], M, hM, _ => by simp [fndAll, mores]
  | i :: r, M, hM, hx => by
    have hi := hx i List.mem_cons_self
    have ih := fndAll_flt h r _ (more_ok h hM hi) fun j hj => hx j (List.mem_cons_of_mem _ hj)
    simp only [fndAll, mores]
    rw [fnd_flt h hM hi]
    refine ⟨ih.1, ?_⟩
    have h2 := ih.2
    rw [dm_more h hM hi] at h2
    rw [List.sum_cons, List.map_cons, List.sum_cons, cst_flt h hM i hi]
    omega
theorem no_ok {p : List Nat} : MOk p fun _ => false := ⟨fun _ _ z => (Bool.false_ne_true z).elim, fun _ _ z => (Bool.false_ne_true z).elim⟩
theorem fndAll_eq {p : List Nat} (h : FoOk p) {xs : List Nat} (hx : ∀ i ∈ xs, i < p.length) : (fndAll p xs).1 = flt p (mk p xs) ∧ (fndAll p xs).2.sum = dm p (mk p xs) + (xs.map (nroot p)).sum := by
  have q := fndAll_flt h xs (fun _ => false) no_ok hx
  have e : mores p (fun _ => false) xs = mk p xs := funext fun j => by rw [mores_eq]; rfl
  rw [flt_none, e] at q
  have z : dm p (fun _ => false) = 0 := by simp [dm]
  rw [z] at q
  exact q
theorem mk_congr {p xs ys : List Nat} (h : ∀ i, i ∈ xs ↔ i ∈ ys) : mk p xs = mk p ys := by
  funext j
  unfold mk
  rw [Bool.eq_iff_iff, List.any_eq_true, List.any_eq_true]
  exact ⟨fun ⟨i, a, b⟩ => ⟨i, (h i).mp a, b⟩, fun ⟨i, a, b⟩ => ⟨i, (h i).mpr a, b⟩⟩
theorem fnd_fo {p : List Nat} (h : FoOk p) {i : Nat} (hi : i < p.length) : FoOk (fnd p i) := by
  have e := fnd_flt h no_ok hi
  rw [flt_none] at e
  rw [e]
  exact flt_fo h (more_ok h no_ok hi)
theorem fnd_len {p : List Nat} {i : Nat} : (fnd p i).length = p.length := cmp_len
end G

/-! GLess: cells left over may be forgotten. -/
namespace G
open PySem PySem.Spec L2
def Le (c c' : Cs) : Prop := ∀ n o, c n = some o → c' n = some o
theorem Le.refl (c : Cs) : Le c c := fun _ _ h => h
theorem Le.trans {a b c : Cs} (h : Le a b) (k : Le b c) : Le a c := fun n o e => k n o (h n o e)
theorem Le.put {c c' : Cs} {n : Nat} {o : Ob} (h : Le c c') (hn : c n = none) : Le c (put c' n o) := fun m u e => by
  have : m ≠ n := fun z => by rw [z, hn] at e; cases e
  rw [put_ne this]
  exact h m u e
theorem Le.none {c c' : Cs} {n : Nat} (h : Le c c') (hn : c' n = none) : c n = none := by
  cases e : c n with
  | none => rfl
  | some o => rw [h n o e] at hn; cases hn
def okFnL (n : Nat) (body : S) (sp : Spec) : Prop := ∀ ds cs Q X, sp ds cs Q X → wpS body (start n ds) cs { nx := fun _ c' => ∃ c, Le c c' ∧ Q .non c, rt := fun d c' => ∃ c, Le c c' ∧ Q d c, ex := fun x _ c' => ∃ c, Le c c' ∧ X x c }
section
variable {P : Program} {w : World} {K : PySem.W.Frag} {mg : Str → Option Value} {base : Heap}
theorem fnOk_ofL {x qual : Str} {params : Arguments} {body : List Stmt} {scope : Scope} {dvs : List V} {kws : List (Str × V)} {f : Addr} {fd : FuncData} {N ps : List Str} {k : Nat} {sp : Spec} {core : S} (FD : FunD K x qual params body scope dvs kws f fd) (S : FnScope N ps scope)
    (len : ∀ ds cs Q PX, sp ds cs Q PX → ds.length = ps.length)
    (hb : ∀ (cdv : Value) (A : Around) (outer : List Env) (s : Shared) (H : Hp) (E : XK), Ct (cxOf (L2N.CX P w) P w K mg base N qual scope f cdv A outer s H E) (wxOf E) k → JSs (cxOf (L2N.CX P w) P w K mg base N qual scope f cdv A outer s H E) (wxOf E) body core)
    (ok : okFnL N.length core sp) : FnOk P w K mg base (L2N.CX P w) (k + 1) f fd ps (lift K mg sp) := by
  refine FD.ok S (fun vs H Q E h => ?_) fun cdv A outer s H vs Q E hr h => ?_
  · obtain ⟨wd, F, cs, ds, PD, PX, R, r, s, q⟩ := h
    rw [r.length]
    exact len _ _ _ _ s
  · obtain ⟨wd, F, cs, ds, PD, PX, R, r, hs, q, x⟩ := h
    obtain ⟨t, p1, r1⟩ := hb cdv A outer s H E ⟨rfl, S.nd, passes_of rfl, L2N.takes_of rfl rfl rfl rfl, hr⟩
    refine ⟨t, p1, ?_⟩
    exact r1 wd F _ cs _ H _ _ R (rs_start r) (ok ds cs PD PX hs) ⟨fun wd' τ cs' σ H' l R' rs' ⟨c, le, h'⟩ => q wd' .non c .non H' l (R'.less le) rfl h', fun _ _ _ _ _ _ _ _ z => z.elim, fun _ _ _ _ _ _ _ _ z => z.elim, fun wd' d cs' v H' l R' rv ⟨c, le, h'⟩ => q wd' d c v H' l (R'.less le) rv h', fun wd' y τ cs' σ cls dd H' l R' rs' rx ⟨c, le, z⟩ => x wd' y c cls dd H' l (R'.less le) rx z⟩
end
theorem okFn.less {n : Nat} {body : S} {sp : Spec} (h : okFn n body sp) (mono : ∀ ds cs Q X Q' X', sp ds cs Q X → (∀ d c, Q d c → Q' d c) → (∀ x c, X x c → X' x c) → sp ds cs Q' X') : okFnL n body sp :=
  fun ds cs Q X hs => h ds cs (fun d c' => ∃ c, Le c c' ∧ Q d c) (fun x c' => ∃ c, Le c c' ∧ X x c) (mono ds cs Q X _ _ hs (fun d c z => ⟨c, Le.refl c, z⟩) fun x c z => ⟨c, Le.refl c, z⟩)
end G

/-! GFoD: what the program's finds and the laws' helpers over forests promise. -/
namespace G
open PySem (Str)
@[simp] theorem sAppend_e {n : Nat} {y : D} {cs : Cs} {Q : KD} {X : KX} : sAppend [.ref n, y] cs Q X = match cs n with
    | some (.lst xs) => xs.length < lim ∧ Q .non (put cs n (.lst (xs ++ [y])))
    | _ => False := rfl
@[simp] theorem sInsert_e {n : Nat} {i : Int} {y : D} {cs : Cs} {Q : KD} {X : KX} : sInsert [.ref n, .int i, y] cs Q X = match cs n with
    | some (.lst xs) => xs.length < lim ∧ 0 ≤ i ∧ i < 2 ^ 63 ∧ Q .non (put cs n (.lst (xs.take i.toNat ++ [y] ++ xs.drop i.toNat)))
    | _ => False := rfl
@[simp] theorem chkL_ref {n : Nat} {cs : Cs} : chkL (.ref n) cs = match cs n with
    | some (.lst xs) => True
    | _ => False := by
  unfold chkL
  simp only [getL_ref]
  cases cs n with
  | none => rfl
  | some o => cases o <;> rfl
@[simp] theorem sTupOf_e {x : D} {cs : Cs} {Q : KD} {X : KX} : sTupOf [x] cs Q X = match getQ x cs with
    | some xs => Q (.tup xs) cs
    | none => False := rfl
theorem sIn_e {x y : D} {cs : Cs} {Q : KD} {X : KX} : sIn [x, y] cs Q X = match getQ y cs with
    | some xs => flat x = true ∧ xs.all flat = true ∧ Q (.bl (inD x xs)) cs
    | none => False := rfl
theorem sNotIn_e {x y : D} {cs : Cs} {Q : KD} {X : KX} : sNotIn [x, y] cs Q X = match getQ y cs with
    | some xs => flat x = true ∧ xs.all flat = true ∧ Q (.bl (!inD x xs)) cs
    | none => False := rfl
@[simp] theorem beqN {a b : Nat} : ((a : Int) == (b : Int)) = decide (a = b) := by
  rw [Bool.eq_iff_iff]
  simp
  omega
/-- nodes as values -/
def nI (xs : List Nat) : List D := xs.map fun n => D.int (n : Nat)
def fD (p : List Nat) : D := .tup (nI p)
def lD (xs : List Nat) : D := .lst (nI xs)
@[simp] theorem nI_len {xs : List Nat} : (nI xs).length = xs.length := by simp [nI]
@[simp] theorem nI_flat {xs : List Nat} : (nI xs).all flat = true := by
  rw [List.all_eq_true]
  intro d hd
  obtain ⟨n, _, e⟩ := List.mem_map.mp hd
  rw [← e]
  rfl
theorem nI_app {xs ys : List Nat} : nI (xs ++ ys) = nI xs ++ nI ys := by simp [nI]
theorem nI_get {xs : List Nat} {i : Nat} (h : i < xs.length) : (nI xs)[i]? = some (.int (xs[i] : Nat)) := by simp [nI, h]
theorem ix_par {p : List Nat} {i : Nat} (h : i < p.length) : ix (nI p) (i : Int) = some (.int (par p i : Nat)) := by
  have e : par p i = p[i] := by
    unfold par
    rw [List.getD_eq_getElem?_getD, List.getElem?_eq_getElem h]
    rfl
  rw [e]
  exact ix_nat (nI_get h)
theorem ix_lastI {xs : List Nat} {j : Nat} : ix (nI (xs ++ [j])) (-1) = some (.int (j : Nat)) := by
  rw [nI_app]
  exact ix_last
theorem inD_nI {i : Nat} {xs : List Nat} : inD (.int (i : Nat)) (nI xs) = decide (i ∈ xs) := by
  rw [Bool.eq_iff_iff, decide_eq_true_iff]
  unfold inD nI
  rw [List.any_eq_true]
  constructor
  · rintro ⟨d, hd, e⟩
    obtain ⟨n, hn, rfl⟩ := List.mem_map.mp hd
    simp [eqD] at e
    have : n = i := by omega
    rw [← this]
    exact hn
  · intro h
    exact ⟨_, List.mem_map.mpr ⟨i, h, rfl⟩, by simp [eqD]⟩
theorem getQ_fD {p : List Nat} {cs : Cs} : getQ (fD p) cs = some (nI p) := rfl
theorem getQ_lD {p : List Nat} {cs : Cs} : getQ (lD p) cs = some (nI p) := rfl
/-! ### need_node, path_of -/
def spNeed : Spec := fun ds cs Q _ => ∃ x xs i, ds = [x, .int i] ∧ (∀ s, x ≠ .str s) ∧ getQ x cs = some xs ∧ 0 ≤ i ∧ i < xs.length ∧ Q .non cs
theorem ok_need : okFn 2 c_need_node spNeed := by
  rintro ds cs Q X ⟨x, xs, i, rfl, hx, hq, h0, h1, hQ⟩
  show wpS c_need_node_1 [some x, some (.int i)] cs _
  rw [c_need_node_1]
  simp [sLen_e hx, hq, h0, h1]
  exact hQ
theorem fD_str {p : List Nat} : ∀ s, fD p ≠ .str s := fun s e => by cases e
theorem spNeed_e {p : List Nat} {i : Int} {cs : Cs} {Q : KD} {X : KX} (h : 0 ≤ i ∧ i < p.length) (hQ : Q .non cs) : spNeed [fD p, .int i] cs Q X :=
  ⟨_, _, _, rfl, fD_str, getQ_fD, h.1, by simpa using h.2, hQ⟩
def spPath : Spec := fun ds cs Q _ => ∃ p i, ds = [fD p, .int (i : Nat)] ∧ FoOk p ∧ i < p.length ∧ p.length ≤ 1000 ∧ Q (lD (path p i)) cs
theorem spPath_e {p : List Nat} {i : Nat} {cs : Cs} {Q : KD} {X : KX} (h : FoOk p) (hi : i < p.length) (hl : p.length ≤ 1000) (hQ : Q (lD (path p i)) cs) : spPath [fD p, .int (i : Nat)] cs Q X := ⟨_, _, rfl, h, hi, hl, hQ⟩
theorem ok_path : okFn 3 (c_path_of spNeed) spPath := by
  rintro ds cs Q X ⟨p, i, rfl, h, hi, hl, hQ⟩
  show wpS (.seq (c_path_of_1 spNeed) (.seq (c_path_of_2 spNeed) (.seq (c_path_of_4 spNeed) (.seq (.frz 2) (c_path_of_5 spNeed))))) [some (fD p), some (.int (i : Nat)), none] cs _
  simp only [wpS]
  rw [c_path_of_1, c_path_of_2]
  simp only [wpS, wpE, wpEs, bindP, getV, List.set]
  refine spNeed_e ⟨by omega, by omega⟩ ?_
  simp only [sListM_e]
  refine ⟨show 1 ≤ 16777216 by decide, fun n hn => ?_⟩
  obtain ⟨r, hr⟩ := h
  have h : FoOk p := ⟨r, hr⟩
  rw [c_path_of_4]
  simp only [wpS]
  refine ⟨r i + 1, whl_inv (fun m σ c => ∃ pre j, c = put cs n (.lst (nI (pre ++ [j]))) ∧ σ = [some (fD p), some (.int (i : Nat)), some (.ref n)] ∧ pre ++ path p j = path p i ∧ j < p.length ∧ r j = m) ?_ _ (r i) _ _ (Nat.lt_succ_self _) ⟨[], i, rfl, rfl, rfl, hi, rfl⟩⟩
  rintro m σ c ⟨pre, j, rfl, rfl, hp, hj, rfl⟩
  have lp : pre.length + 1 ≤ 1000 := by
    have l1 := congrArg List.length hp
    have l2 : 0 < (path p j).length := List.length_pos_iff.mpr (path_ne j)
    have l3 := path_le h hi
    rw [List.length_append] at l1
    omega
  refine ⟨!decide (par p j = j), fun Q' X' hQ' => ?_, fun e => ?_, fun e K' h1 h2 h3 h4 h5 => ?_⟩
  · simp [sIx_e, getQ_fD, ix_lastI, ix_par hj]
    exact hQ'
  · have e : par p j = j := by simpa using e
    have hp2 : pre ++ [j] = path p i := by rw [← hp, path_root h hj e]
    rw [c_path_of_5]
    simp
    rw [del_put hn, hp2]
    exact hQ
  · have e : par p j ≠ j := by simpa using e
    rw [c_path_of_3]
    simp [sIx_e, getQ_fD, ix_lastI, ix_par hj]
    refine ⟨show _ < 16777216 by omega, h1 (r (par p j)) _ _ (((hr j hj).2.2).resolve_left e) ⟨pre ++ [j], par p j, ?_, rfl, ?_, (hr j hj).1, rfl⟩⟩
    · simp [nI]
    · rw [← hp, path_step h hj e]
      simp
theorem path_split {p : List Nat} {i : Nat} : path p i = (path p i).dropLast ++ [root p i] := by
  have h := List.dropLast_concat_getLast (path_ne (p := p) i)
  have e : root p i = (path p i).getLast (path_ne i) := path_last i _ _ h.symm
  rw [e]
  exact h.symm
theorem ix_path {p : List Nat} {i : Nat} : ix (nI (path p i)) (-1) = some (.int (root p i : Nat)) := by
  rw [path_split]
  exact ix_lastI
theorem compL_map {p : Pat} {grd : Cs → Prop} {σ : Sl} {tst elt : Sl → Cs → KD → Prop} {Q : List D → Cs → Prop} {cs : Cs} (f : D → D) (hg : grd cs) (items acc : List D)
    (h : ∀ x ∈ items, ∃ σ1, bindP p [x] σ = some σ1 ∧ (∀ K : KD, K (.bl true) cs → tst σ1 cs K) ∧ (∀ K : KD, K (f x) cs → elt σ1 cs K)) (hl : acc.length + items.length ≤ lim) (hQ : Q (acc ++ items.map f) cs) : compL p grd σ tst elt Q items acc cs := by
  refine compL_pure (fun _ => true) f hg items acc (fun x hx => ?_) hl ?_
  · obtain ⟨σ1, a, b, c⟩ := h x hx
    exact ⟨σ1, a, b, fun _ => c⟩
  · rw [show items.filter (fun _ => true) = items from List.filter_eq_self.mpr (by simp)]
    exact hQ
/-- a comprehension whose items are not determined -/
theorem compL_all {p : Pat} {grd : Cs → Prop} {σ : Sl} {tst elt : Sl → Cs → KD → Prop} {Q : List D → Cs → Prop} {cs : Cs} (A : D → Prop) (hg : grd cs) : ∀ (items acc : List D),
    (∀ x ∈ items, ∃ σ1, bindP p [x] σ = some σ1 ∧ (∀ K : KD, K (.bl true) cs → tst σ1 cs K) ∧ (∀ K : KD, (∀ y, A y → K y cs) → elt σ1 cs K)) → acc.length + items.length ≤ lim →
    (∀ ys, ys.length = items.length → (∀ y ∈ ys, A y) → Q (acc ++ ys) cs) → compL p grd σ tst elt Q items acc cs
  | [], acc, _, _, hQ => ⟨hg, by simpa using hQ [] rfl (by simp)⟩
  | x :: xs, acc, h, hl, hQ => by
    obtain ⟨σ1, hb, ht, he⟩ := h x List.mem_cons_self
    refine ⟨hg, ?_⟩
    rw [hb]
    have hl2 : acc.length + (xs.length + 1) ≤ lim := by simpa using hl
    refine ht _ (.inl ⟨rfl, he _ fun y hy => ⟨by omega, compL_all A hg xs _ (fun z hz => h z (List.mem_cons_of_mem _ hz)) (by simp; omega) fun ys h1 h2 => ?_⟩⟩)
    have := hQ (y :: ys) (by simp [h1]) fun z hz => by
      rcases List.mem_cons.mp hz with e | e
      · rw [e]
        exact hy
      · exact h2 z e
    simpa using this
/-! ### compressed, find, find_all -/
theorem enumD_nI : ∀ (p : List Nat), enumD 0 (nI p) = (List.range p.length).map fun i => D.tup [.int (i : Nat), .int (par p i : Nat)] := by
  intro p
  refine List.ext_getElem? fun i => ?_
  by_cases hi : i < p.length
  · have h1 : i < (enumD 0 (nI p)).length := by rw [enumD_length]; simpa using hi
    obtain ⟨x, hx, e⟩ := enumD_get (List.getElem?_eq_getElem h1)
    rw [nI_get hi] at hx
    cases hx
    rw [List.getElem?_eq_getElem h1, e, List.getElem?_map, List.getElem?_range hi]
    have e2 : par p i = p[i] := by
      unfold par
      rw [List.getD_eq_getElem?_getD, List.getElem?_eq_getElem hi]
      rfl
    simp [e2]
  · rw [List.getElem?_eq_none (by rw [enumD_length]; simpa using Nat.le_of_not_lt hi), List.getElem?_eq_none (by simpa using Nat.le_of_not_lt hi)]
def spCmp : Spec := fun ds cs Q _ => ∃ p xs t, ds = [fD p, lD xs, .int (t : Nat)] ∧ p.length ≤ 1000 ∧ Q (fD (cmp p xs t)) cs
theorem spCmp_e {p xs : List Nat} {t : Nat} {cs : Cs} {Q : KD} {X : KX} (hl : p.length ≤ 1000) (hQ : Q (fD (cmp p xs t)) cs) : spCmp [fD p, lD xs, .int (t : Nat)] cs Q X := ⟨_, _, _, rfl, hl, hQ⟩
theorem ok_cmp : okFn 5 c_compressed spCmp := by
  rintro ds cs Q X ⟨p, xs, t, rfl, hl, hQ⟩
  show wpS c_compressed_1 [some (fD p), some (lD xs), some (.int (t : Nat)), none, none] cs _
  rw [c_compressed_1]
  simp only [wpS, wpE, wpEs, getV]
  show compL _ _ _ _ _ _ (enumD 0 (nI p)) [] cs
  rw [enumD_nI]
  refine compL_map (fun d => match d with
    | .tup [.int i, y] => if i.toNat ∈ xs then .int (t : Nat) else y
    | d => d) trivial _ _ (fun d hd => ?_) (show _ ≤ 16777216 by simp; omega) ?_
  · obtain ⟨i, hi, rfl⟩ := List.mem_map.mp hd
    refine ⟨_, rfl, fun K h => h, fun K h => ?_⟩
    simp [wipe, sIn_e, getQ_lD, flat, inD_nI]
    by_cases e : i ∈ xs
    · rw [if_pos e]
      simp [e] at h
      exact h
    · rw [if_neg e]
      simp [e] at h
      exact h
  · rw [List.nil_append, List.map_map]
    have e : (List.map ((fun d => match d with
        | D.tup [D.int i, y] => if i.toNat ∈ xs then D.int (t : Nat) else y
        | d => d) ∘ fun i => D.tup [D.int (i : Nat), D.int (par p i : Nat)]) (List.range p.length)) = nI (cmp p xs t) := by
      unfold nI cmp
      rw [List.map_map]
      refine List.map_congr_left fun i hi => ?_
      simp
      split <;> rfl
    rw [e]
    exact hQ
def spFnd : Spec := fun ds cs Q _ => ∃ p i, ds = [fD p, .int (i : Nat)] ∧ FoOk p ∧ i < p.length ∧ p.length ≤ 1000 ∧ Q (.tup [fD (fnd p i), .int (cst p i : Nat)]) cs
theorem spFnd_e {p : List Nat} {i : Nat} {cs : Cs} {Q : KD} {X : KX} (h : FoOk p) (hi : i < p.length) (hl : p.length ≤ 1000) (hQ : Q (.tup [fD (fnd p i), .int (cst p i : Nat)]) cs) : spFnd [fD p, .int (i : Nat)] cs Q X := ⟨_, _, rfl, h, hi, hl, hQ⟩
theorem ok_find : okFn 3 (c_find spCmp spPath) spFnd := by
  rintro ds cs Q X ⟨p, i, rfl, h, hi, hl, hQ⟩
  show wpS (.seq (c_find_1 spCmp spPath) (c_find_2 spCmp spPath)) [some (fD p), some (.int (i : Nat)), none] cs _
  simp only [wpS]
  rw [c_find_1]
  simp only [wpS, wpE, wpEs, bindP, getV, List.set]
  refine spPath_e h hi hl ?_
  rw [c_find_2]
  simp only [wpS, wpE, wpEs, getV, sNeg_e, sIx_e, getQ_lD]
  rw [show (-1 : Int) = -1 from rfl, ix_path]
  refine spCmp_e hl ?_
  rw [sLen_e (by intro s e; cases e)]
  simp only [getQ_lD, sSub_i, sTup_e]
  refine ⟨show 2 ≤ 16777216 by decide, ?_⟩
  have l0 : 0 < (path p i).length := List.length_pos_iff.mpr (path_ne i)
  have e : (((nI (path p i)).length : Nat) : Int) - 1 = ((cst p i : Nat) : Int) := by
    unfold cst
    rw [nI_len]
    omega
  rw [e]
  exact hQ
theorem fndAll_snoc {p : List Nat} {xs : List Nat} {i : Nat} : fndAll p (xs ++ [i]) = (fnd (fndAll p xs).1 i, (fndAll p xs).2 ++ [cst (fndAll p xs).1 i]) := by
  induction xs generalizing p with
  | nil => rfl
  | cons x xs ih =>
    rw [List.cons_append, fndAll, ih]
    rfl
theorem fndAll_fo {xs : List Nat} : ∀ {p : List Nat}, FoOk p → (∀ i ∈ xs, i < p.length) → FoOk (fndAll p xs).1 ∧ (fndAll p xs).1.length = p.length ∧ (fndAll p xs).2.length = xs.length := by
  induction xs with
  | nil => exact fun h _ => ⟨h, rfl, rfl⟩
  | cons x xs ih =>
    intro p h hx
    have a := ih (fnd_fo h (hx x List.mem_cons_self)) fun i hi => by rw [fnd_len]; exact hx i (List.mem_cons_of_mem _ hi)
    exact ⟨a.1, a.2.1.trans fnd_len, by simp [fndAll, a.2.2]⟩
def isSeq (x : D) (xs : List D) : Prop := x = .lst xs ∨ x = .tup xs
theorem isSeq.q {x : D} {xs : List D} {cs : Cs} (h : isSeq x xs) : getQ x cs = some xs := by
  rcases h with e | e <;> (rw [e]; rfl)
theorem isSeq.str {x : D} {xs : List D} (h : isSeq x xs) : ∀ s, x ≠ .str s := by
  rcases h with e | e <;> (rw [e]; intro s z; cases z)
theorem isSeq.g {x : D} {xs : List D} {cs c : Cs} (h : isSeq x xs) : grdL x cs c := by
  rcases h with e | e <;> (rw [e]; trivial)
theorem iSeq_e {x : D} {xs : List D} {cs : Cs} {R : List D → (Cs → Prop) → Prop} (h : isSeq x xs) (k : R xs (grdL x cs)) : iSeq [x] cs R := by
  show (match getQ x cs with
    | some xs => R xs (grdL x cs)
    | none => False)
  rw [h.q]
  exact k
def spAll : Spec := fun ds cs Q _ => ∃ p x xs, ds = [fD p, x] ∧ isSeq x (nI xs) ∧ FoOk p ∧ (∀ i ∈ xs, i < p.length) ∧ p.length ≤ 1000 ∧ xs.length ≤ 100000 ∧ Q (.tup [fD (fndAll p xs).1, lD (fndAll p xs).2]) cs
theorem spAll_e {p xs : List Nat} {x : D} {cs : Cs} {Q : KD} {X : KX} (hs : isSeq x (nI xs)) (h : FoOk p) (hx : ∀ i ∈ xs, i < p.length) (hl : p.length ≤ 1000) (hm : xs.length ≤ 100000) (hQ : Q (.tup [fD (fndAll p xs).1, lD (fndAll p xs).2]) cs) : spAll [fD p, x] cs Q X := ⟨_, _, _, rfl, hs, h, hx, hl, hm, hQ⟩
theorem ok_find_all : okFn 5 (c_find_all spFnd spNeed) spAll := by
  rintro ds cs Q X ⟨p, x, xs, rfl, hs, h, hx, hl, hm, hQ⟩
  show wpS (.seq (c_find_all_2 spFnd spNeed) (.seq (c_find_all_3 spFnd spNeed) (.seq (c_find_all_6 spFnd spNeed) (.seq (.frz 3) (c_find_all_7 spFnd spNeed))))) [some (fD p), some x, none, none, none] cs _
  simp only [wpS]
  rw [c_find_all_2]
  simp only [wpS, wpE, wpEs, getV]
  refine iSeq_e hs (forL_inv (fun j σ c => c = cs ∧ ∃ a, σ = [some (fD p), some x, a, none, none]) _ 0 ⟨rfl, _, rfl⟩ (fun _ _ _ _ _ _ => hs.g) ?_ ?_)
  · rintro j d σ c hd ⟨rfl, a, rfl⟩
    obtain ⟨i, hi, e⟩ := List.mem_map.mp (List.mem_of_getElem? hd)
    subst e
    refine ⟨_, rfl, fun K' h1 h2 h3 h4 h5 => ?_⟩
    rw [c_find_all_1]
    simp only [wpS, wpE, wpEs, getV, List.set]
    exact spNeed_e ⟨by omega, by have := hx i hi; omega⟩ (h1 _ _ ⟨rfl, _, rfl⟩)
  rintro σ c ⟨rfl, a, rfl⟩
  rw [c_find_all_3]
  simp only [wpS, wpE, wpEs, bindP, getV, List.set, sListM_e]
  refine ⟨Nat.zero_le _, fun n hn => ?_⟩
  rw [c_find_all_6]
  simp only [wpS, wpE, wpEs, getV]
  refine iSeq_e hs (forL_inv (fun j σ d => d = put c n (.lst (nI (fndAll p (xs.take j)).2)) ∧ ∃ a b, σ = [some (fD (fndAll p (xs.take j)).1), some x, a, some (.ref n), b]) _ 0 ⟨rfl, _, _, rfl⟩ (fun _ _ _ _ _ _ => hs.g) ?_ ?_)
  · rintro j d σ c' hd ⟨rfl, a, b, rfl⟩
    have hj : j < xs.length := by simpa using (List.getElem?_eq_some_iff.mp hd).1
    rw [nI_get hj] at hd
    cases hd
    refine ⟨_, rfl, fun K' h1 h2 h3 h4 h5 => ?_⟩
    have sub : ∀ i ∈ xs.take j, i < p.length := fun i hi => hx i (List.mem_of_mem_take hi)
    have fo := fndAll_fo h sub
    have hi := hx _ (List.getElem_mem hj)
    show wpS (.seq (c_find_all_4 spFnd spNeed) (c_find_all_5 spFnd spNeed)) _ _ _
    rw [c_find_all_4, c_find_all_5]
    simp only [wpS, wpE, wpEs, getV, List.set, Nat.zero_add]
    refine spFnd_e fo.1 (by rw [fo.2.1]; exact hi) (by rw [fo.2.1]; exact hl) ?_
    simp
    refine ⟨?_, h1 _ _ ⟨?_, some (.int (xs[j] : Nat)), some (.int (cst (fndAll p (xs.take j)).1 xs[j] : Nat)), ?_⟩⟩
    · rw [fo.2.2, List.length_take]
      show _ < 16777216
      omega
    · rw [Nat.zero_add, List.take_succ_eq_append_getElem hj, fndAll_snoc]
      simp [nI]
    · rw [Nat.zero_add, List.take_succ_eq_append_getElem hj, fndAll_snoc]
  · rintro σ c' ⟨rfl, a, b, rfl⟩
    have e : xs.take (0 + (nI xs).length) = xs := by rw [nI_len, Nat.zero_add, List.take_length]
    rw [e]
    rw [c_find_all_7]
    simp
    refine ⟨show 2 ≤ 16777216 by decide, ?_⟩
    rw [del_put hn]
    exact hQ
end G

/-! GFoE: the laws' forests, nodes, paths. -/
namespace G
open PySem (Str)
def spRoot : Spec := fun ds cs Q _ => ∃ p i, ds = [fD p, .int (i : Nat)] ∧ FoOk p ∧ i < p.length ∧ p.length ≤ 1000 ∧ Q (.int (root p i : Nat)) cs
theorem spRoot_e {p : List Nat} {i : Nat} {cs : Cs} {Q : KD} {X : KX} (h : FoOk p) (hi : i < p.length) (hl : p.length ≤ 1000) (hQ : Q (.int (root p i : Nat)) cs) : spRoot [fD p, .int (i : Nat)] cs Q X := ⟨_, _, rfl, h, hi, hl, hQ⟩
theorem ok_l_root : okFn 2 (c_l_root spPath) spRoot := by
  rintro ds cs Q X ⟨p, i, rfl, h, hi, hl, hQ⟩
  show wpS (c_l_root_1 spPath) [some (fD p), some (.int (i : Nat))] cs _
  rw [c_l_root_1]
  simp only [wpS, wpE, wpEs, getV]
  refine spPath_e h hi hl ?_
  simp only [sNeg_e, sIx_e, getQ_lD, ix_path]
  exact hQ
theorem ok_root_of : okFn 2 (c_root_of spPath) spRoot := by
  rintro ds cs Q X ⟨p, i, rfl, h, hi, hl, hQ⟩
  show wpS (c_root_of_1 spPath) [some (fD p), some (.int (i : Nat))] cs _
  rw [c_root_of_1]
  simp only [wpS, wpE, wpEs, getV]
  refine spPath_e h hi hl ?_
  simp only [sNeg_e, sIx_e, getQ_lD, ix_path]
  exact hQ
theorem len_fD {p : List Nat} {cs : Cs} {Q : KD} {X : KX} : sLen [fD p] cs Q X = Q (.int (p.length : Nat)) cs := by
  rw [sLen_e fD_str]
  simp only [getQ_fD, nI_len]
/-- the laws' own path -/
theorem ok_l_path : okFn 4 c_l_path spPath := by
  rintro ds cs Q X ⟨p, i, rfl, h, hi, hl, hQ⟩
  show wpS (.seq c_l_path_1 (.seq c_l_path_4 (.seq (.frz 2) c_l_path_5))) [some (fD p), some (.int (i : Nat)), none, none] cs _
  simp only [wpS]
  rw [c_l_path_1]
  simp only [wpS, wpE, wpEs, bindP, getV, List.set, sListM_e]
  refine ⟨show 1 ≤ 16777216 by decide, fun n hn => ?_⟩
  rw [c_l_path_4]
  simp only [wpS, wpE, wpEs, getV, len_fD]
  refine rng1_inv (fun s σ c => ∃ pre j a, c = put cs n (.lst (nI (pre ++ [j]))) ∧ σ = [some (fD p), some (.int (i : Nat)), some (.ref n), a] ∧ pre ++ path p j = path p i ∧ j < p.length ∧ (s ≤ pre.length ∨ par p j = j)) (by omega) (by omega) ⟨[], i, none, rfl, rfl, rfl, hi, .inl (Nat.le_refl _)⟩ ?_ ?_
  · rintro s σ c hs ⟨pre, j, a, rfl, rfl, hp, hj, hd⟩ K' h1 h2 h3 h4 h5
    clear h3 h4 h5
    have lp : pre.length + 1 ≤ 1000 := by
      have l1 := congrArg List.length hp
      have l2 : 0 < (path p j).length := List.length_pos_iff.mpr (path_ne j)
      have l3 := path_le h hi
      rw [List.length_append] at l1
      omega
    rw [c_l_path_3]
    simp [sIx_e, getQ_fD, ix_lastI, ix_par hj]
    by_cases e : par p j = j
    · rw [if_pos e]
      exact h1 _ _ ⟨pre, j, _, rfl, rfl, hp, hj, .inr e⟩
    · rw [if_neg e, c_l_path_2]
      simp [sIx_e, getQ_fD, ix_lastI, ix_par hj]
      refine ⟨show _ < 16777216 by omega, h1 _ _ ⟨pre ++ [j], par p j, _, ?_, rfl, ?_, par_lt h hj, ?_⟩⟩
      · simp [nI]
      · rw [← hp, path_step h hj e]
        simp
      · rcases hd with z | z
        · left
          simp
          omega
        · exact absurd z e
  · rintro σ c ⟨pre, j, a, rfl, rfl, hp, hj, hd⟩
    have e : par p j = j := by
      rcases hd with z | z
      · have l1 := congrArg List.length hp
        have l2 : 0 < (path p j).length := List.length_pos_iff.mpr (path_ne j)
        have l3 := path_le h hi
        rw [List.length_append] at l1
        omega
      · exact z
    have hp2 : pre ++ [j] = path p i := by rw [← hp, path_root h hj e]
    rw [c_l_path_5]
    simp
    rw [del_put hn, hp2]
    exact hQ
/-! ### draws -/
def spShuf : Spec := fun ds cs Q _ => ∃ n x xs, ds = [.ref n, x] ∧ cs n = some .drw ∧ isSeq x xs ∧ xs.length ≤ 100000 ∧ ∀ ys : List D, ys.Perm xs → Q (.lst ys) cs
theorem spShuf_e {n : Nat} {x : D} {xs : List D} {cs : Cs} {Q : KD} {X : KX} (hc : cs n = some .drw) (hs : isSeq x xs) (hl : xs.length ≤ 100000) (hQ : ∀ ys : List D, ys.Perm xs → Q (.lst ys) cs) : spShuf [.ref n, x] cs Q X := ⟨_, _, _, rfl, hc, hs, hl, hQ⟩
theorem ins_perm {α : Type} (ys : List α) (r : Nat) (d : α) : (ys.take r ++ [d] ++ ys.drop r).Perm (ys ++ [d]) := by
  have h1 : (ys.take r ++ [d] ++ ys.drop r).Perm (ys.take r ++ ys.drop r ++ [d]) := by
    rw [List.append_assoc, List.append_assoc]
    exact List.Perm.append_left _ List.perm_append_comm
  rw [List.take_append_drop] at h1
  exact h1
theorem ok_shuf : okFn 4 (c_l_shuffled spTake) spShuf := by
  rintro ds cs Q X ⟨n, x, xs, rfl, hc, hs, hl, hQ⟩
  show wpS (.seq (c_l_shuffled_1 spTake) (.seq (c_l_shuffled_3 spTake) (.seq (.frz 2) (c_l_shuffled_4 spTake)))) [some (.ref n), some x, none, none] cs _
  simp only [wpS]
  rw [c_l_shuffled_1]
  simp only [wpS, wpE, wpEs, bindP, getV, List.set, sListM_e]
  refine ⟨Nat.zero_le _, fun m hm => ?_⟩
  have ne : n ≠ m := fun z => by rw [z, hm] at hc; cases hc
  rw [c_l_shuffled_3]
  simp only [wpS, wpE, wpEs, getV]
  refine iSeq_e hs (forL_inv (fun j σ c => ∃ ys a, c = put cs m (.lst ys) ∧ σ = [some (.ref n), some x, some (.ref m), a] ∧ ys.Perm (xs.take j)) _ 0 ⟨[], none, rfl, rfl, by simp⟩ (fun _ _ _ _ _ _ => hs.g) ?_ ?_)
  · rintro j d σ c hd ⟨ys, a, rfl, rfl, hp⟩
    have hj : j < xs.length := (List.getElem?_eq_some_iff.mp hd).1
    have ed : xs[j] = d := (List.getElem?_eq_some_iff.mp hd).2
    have ly : ys.length ≤ j := by
      rw [hp.length_eq, List.length_take]
      omega
    refine ⟨_, rfl, fun K' h1 h2 h3 h4 h5 => ?_⟩
    clear h3 h4 h5
    rw [c_l_shuffled_2]
    simp [put_ne ne, sLen_e, spTake_e, hc]
    refine ⟨by omega, fun r r0 r1 => ⟨show _ < 16777216 by omega, r0, by omega, h1 _ _ ⟨_, _, rfl, rfl, ?_⟩⟩⟩
    rw [Nat.zero_add, List.take_succ_eq_append_getElem hj, ed]
    rw [Nat.zero_add] at hp
    have h6 := (ins_perm ys r.toNat d).trans (hp.append_right [d])
    simpa using h6
  · rintro σ c ⟨ys, a, rfl, rfl, hp⟩
    rw [c_l_shuffled_4]
    simp
    rw [del_put hm]
    rw [Nat.zero_add, List.take_length] at hp
    exact hQ ys hp
def spSize : Spec := fun ds cs Q _ => ∃ n m, ds = [.ref n, .int m] ∧ cs n = some .drw ∧ 0 ≤ m ∧ m ≤ 1000 ∧ ∀ s : Nat, (s : Int) ≤ m → Q (.int (s : Nat)) cs
theorem spSize_e {n : Nat} {m : Int} {cs : Cs} {Q : KD} {X : KX} (hc : cs n = some .drw) (h0 : 0 ≤ m) (h1 : m ≤ 1000) (hQ : ∀ s : Nat, (s : Int) ≤ m → Q (.int (s : Nat)) cs) : spSize [.ref n, .int m] cs Q X := ⟨_, _, rfl, hc, h0, h1, hQ⟩
theorem ok_size : okFn 2 (c_l_size spOf spTake) spSize := by
  rintro ds cs Q X ⟨n, m, rfl, hc, h0, h1, hQ⟩
  show wpS (c_l_size_1 spOf spTake) [some (.ref n), some (.int m)] cs _
  rw [c_l_size_1]
  have go : ∀ x : Int, 0 ≤ x → x ≤ m → Q (.int x) cs := fun x a b => by
    have := hQ x.toNat (by omega)
    rwa [Int.toNat_of_nonneg a] at this
  simp [spTake_e, spOf_e, hc, lim]
  refine ⟨by omega, by omega, fun r r0 r1 y y0 y1 => ⟨go _ r0 (by omega), ?_, ?_⟩⟩
  · split <;> exact go _ (by omega) (by omega)
  · split <;> exact go _ (by omega) (by omega)
theorem perm_map_inv {α β : Type} {f : α → β} : ∀ {ys zs : List β}, ys.Perm zs → ∀ l : List α, zs = l.map f → ∃ l' : List α, l'.Perm l ∧ ys = l'.map f := by
  intro ys zs h
  induction h with
  | nil =>
    intro l e
    cases l with
    | nil => exact ⟨[], List.Perm.refl _, rfl⟩
    | cons x l => cases e
  | cons x h ih =>
    intro l e
    cases l with
    | nil => cases e
    | cons y l =>
      simp at e
      obtain ⟨l', h1, h2⟩ := ih l e.2
      exact ⟨y :: l', h1.cons y, by rw [e.1, h2]; rfl⟩
  | swap x y r =>
    intro l e
    cases l with
    | nil => cases e
    | cons a l =>
      cases l with
      | nil => simp at e
      | cons b l =>
        simp at e
        exact ⟨b :: a :: l, List.Perm.swap _ _ _, by rw [e.1, e.2.1, e.2.2]; rfl⟩
  | trans h1 h2 ih1 ih2 =>
    intro l e
    obtain ⟨l1, p1, e1⟩ := ih2 l e
    obtain ⟨l2, p2, e2⟩ := ih1 l1 e1
    exact ⟨l2, p2.trans p1, e2⟩
theorem rgD_nI {n : Nat} : rgD 0 (n : Int) = nI (List.range n) := by
  unfold rgD nI
  rw [show ((n : Int) - 0).toNat = n by omega]
  refine List.map_congr_left fun i _ => ?_
  rw [Int.zero_add]
/-- the nodes renamed -/
def ren (zs ps : List Nat) : Nat → List Nat
  | 0 => List.replicate ps.length 0
  | j + 1 => (ren zs ps j).set (par zs j) (par zs (par ps j))
theorem ren_len {zs ps : List Nat} : ∀ j, (ren zs ps j).length = ps.length
  | 0 => by simp [ren]
  | j + 1 => by rw [ren, List.length_set, ren_len j]
theorem par_get {p : List Nat} {i : Nat} (h : i < p.length) : par p i = p[i] := by
  unfold par
  rw [List.getD_eq_getElem?_getD, List.getElem?_eq_getElem h]
  rfl
theorem ren_at {zs ps : List Nat} (hn : zs.Nodup) (hz : zs.length = ps.length) (hlt : ∀ i, i < zs.length → par zs i < ps.length) : ∀ j, j ≤ ps.length → ∀ i, i < j → par (ren zs ps j) (par zs i) = par zs (par ps i)
  | 0, _, i, h => by omega
  | j + 1, hj, i, h => by
    have l := ren_len (zs := zs) (ps := ps) j
    have hi2 : par zs i < (ren zs ps j).length := by rw [l]; exact hlt i (by omega)
    rw [ren, par_get (by rw [List.length_set]; exact hi2), List.getElem_set]
    by_cases e : j = i
    · subst e
      rw [if_pos rfl]
    · have ne : par zs j ≠ par zs i := fun z => by
        rw [par_get (by omega), par_get (by omega)] at z
        have a := hn.idxOf_getElem j (by omega)
        rw [z, hn.idxOf_getElem i (by omega)] at a
        exact e a.symm
      rw [if_neg ne, ← par_get hi2]
      exact ren_at hn hz hlt j (by omega) i (by omega)
theorem ren_fo {zs ps : List Nat} (hp : zs.Perm (List.range ps.length)) (h : FoOk ps) : FoOk (ren zs ps ps.length) := by
  obtain ⟨r, hr⟩ := h
  have hn : zs.Nodup := hp.nodup_iff.mpr List.nodup_range
  have hz : zs.length = ps.length := by rw [hp.length_eq, List.length_range]
  have hlt : ∀ i, i < zs.length → par zs i < ps.length := fun i hi => by
    rw [par_get hi]
    exact List.mem_range.mp (hp.mem_iff.mp (List.getElem_mem hi))
  refine ⟨fun v => r (zs.idxOf v), fun v hv => ?_⟩
  rw [ren_len] at hv ⊢
  have hm : v ∈ zs := hp.mem_iff.mpr (List.mem_range.mpr hv)
  have hi : zs.idxOf v < zs.length := List.idxOf_lt_length_iff.mpr hm
  have ev : par zs (zs.idxOf v) = v := by
    rw [par_get hi]
    exact List.getElem_idxOf hi
  have at_ := ren_at hn hz hlt ps.length (Nat.le_refl _) (zs.idxOf v) (by omega)
  rw [ev] at at_
  have hr' := hr (zs.idxOf v) (by omega)
  rw [at_]
  have hpi : par ps (zs.idxOf v) < zs.length := by rw [hz]; exact hr'.1
  refine ⟨hlt _ hpi, hr'.2.1, ?_⟩
  have ei : zs.idxOf (par zs (par ps (zs.idxOf v))) = par ps (zs.idxOf v) := by
    rw [par_get hpi]
    exact hn.idxOf_getElem _ hpi
  show _ ∨ r (zs.idxOf (par zs (par ps (zs.idxOf v)))) < r (zs.idxOf v)
  rw [ei]
  rcases hr'.2.2 with z | z
  · left
    rw [z, ev]
  · exact .inr z
def spRen : Spec := fun ds cs Q _ => ∃ n x ps, ds = [.ref n, x] ∧ cs n = some .drw ∧ (∀ s, x ≠ .str s) ∧ (∀ c, Le cs c → getQ x c = some (nI ps)) ∧ FoOk ps ∧ ps.length ≤ 1000 ∧ ∀ q, FoOk q → q.length = ps.length → Q (fD q) cs
theorem spRen_e {n : Nat} {x : D} {ps : List Nat} {cs : Cs} {Q : KD} {X : KX} (hc : cs n = some .drw) (hx : ∀ s, x ≠ .str s) (hq : ∀ c, Le cs c → getQ x c = some (nI ps)) (h : FoOk ps) (hl : ps.length ≤ 1000) (hQ : ∀ q, FoOk q → q.length = ps.length → Q (fD q) cs) : spRen [.ref n, x] cs Q X := ⟨_, _, _, rfl, hc, hx, hq, h, hl, hQ⟩
theorem ixn_nat {n i : Nat} (h : i < n) : ixn n (i : Int) = some i := by
  unfold ixn
  rw [if_pos (by omega), if_pos (by omega)]
  simp
theorem flatten_ones {n : Nat} : (List.replicate n [D.int 0]).flatten = nI (List.replicate n 0) := by
  induction n with
  | zero => rfl
  | succ n ih =>
    rw [List.replicate_succ, List.flatten_cons, ih]
    rfl
@[simp] theorem sRepM_e {x : D} {k : Int} {cs : Cs} {Q : KD} {X : KX} : sRepM [x, .int k] cs Q X = match getL x cs with
    | some xs => -(2 ^ 63) ≤ k ∧ k < 2 ^ 63 ∧ xs.length * k.toNat ≤ lim ∧ ∀ n, cs n = none → Q (.ref n) (put cs n (.lst (List.replicate k.toNat xs).flatten))
    | none => False := rfl
@[simp] theorem sListRg_e {a b : Int} {cs : Cs} {Q : KD} {X : KX} : sListRg [.int a, .int b] cs Q X = (-(2 ^ 62) ≤ a ∧ a < 2 ^ 62 ∧ -(2 ^ 62) ≤ b ∧ b < 2 ^ 62 ∧ (b - a).toNat ≤ lim ∧ Q (.lst (rgD a b)) cs) := rfl
theorem nI_set {xs : List Nat} {i v : Nat} : (nI xs).set i (.int (v : Nat)) = nI (xs.set i v) := by simp [nI, List.map_set]
theorem ok_ren : okFnL 5 (c_l_renamed spShuf) spRen := by
  rintro ds cs Q X ⟨n, x, ps, rfl, hc, hx, hq, h, hl, hQ⟩
  show wpS (.seq (c_l_renamed_1 spShuf) (.seq (c_l_renamed_2 spShuf) (.seq (c_l_renamed_4 spShuf) (c_l_renamed_5 spShuf)))) [some (.ref n), some x, none, none, none] cs _
  have hq0 := hq cs (Le.refl _)
  simp only [wpS]
  rw [c_l_renamed_1]
  simp only [wpS, wpE, wpEs, bindP, getV, List.set]
  rw [sLen_e hx]
  simp only [hq0, nI_len, sListRg_e]
  refine ⟨by omega, by omega, by omega, by omega, show _ ≤ 16777216 by omega, ?_⟩
  rw [rgD_nI]
  refine spShuf_e hc (.inl rfl) (by rw [nI_len, List.length_range]; omega) fun ys hys => ?_
  obtain ⟨zs, hp, rfl⟩ := perm_map_inv hys (List.range ps.length) rfl
  show wpS (c_l_renamed_2 spShuf) [some (.ref n), some x, some (lD zs), none, none] cs _
  rw [c_l_renamed_2]
  simp only [wpS, wpE, wpEs, bindP, getV, List.set]
  simp only [sList_e, sLen_e hx, hq0, nI_len, sRepM_e, getL_lst]
  refine ⟨show 1 ≤ 16777216 by decide, by omega, by omega, show _ ≤ 16777216 by simp; omega, fun m hm => ?_⟩
  rw [Int.toNat_natCast, flatten_ones]
  have hn : zs.Nodup := hp.nodup_iff.mpr List.nodup_range
  have hz : zs.length = ps.length := by rw [hp.length_eq, List.length_range]
  have hlt : ∀ i, i < zs.length → par zs i < ps.length := fun i hi => by
    rw [par_get hi]
    exact List.mem_range.mp (hp.mem_iff.mp (List.getElem_mem hi))
  have hq2 : ∀ o, getQ x (put cs m o) = some (nI ps) := fun o => hq _ ((Le.refl _).put hm)
  rw [c_l_renamed_4]
  simp only [wpS, wpE, wpEs, getV]
  rw [sLen_e hx]
  simp only [hq2, nI_len]
  refine rng1_inv (fun j σ c => ∃ a, c = put cs m (.lst (nI (ren zs ps j))) ∧ σ = [some (.ref n), some x, some (lD zs), some (.ref m), a]) (by omega) (by omega) ⟨none, rfl, rfl⟩ ?_ ?_
  · rintro j σ c hj ⟨a, rfl, rfl⟩ K' h1 h2 h3 h4 h5
    clear h3 h4 h5
    have hj2 : j < ps.length := by omega
    have hpj := par_lt h hj2
    rw [c_l_renamed_3]
    simp [sIx_e, hq2, getQ_lD, ix_par hj2, ix_par (show par ps j < zs.length by omega), ix_par (show j < zs.length by omega), ixn_nat (show par zs j < (ren zs ps j).length by rw [ren_len]; exact hlt j (by omega)), nI_set]
    exact h1 _ _ ⟨_, rfl, rfl⟩
  · rintro σ c ⟨a, rfl, rfl⟩
    rw [c_l_renamed_5]
    simp
    exact ⟨cs, (Le.refl _).put hm, hQ _ (ren_fo hp h) (by rw [ren_len])⟩
/-! ### forests -/
def spForest : Spec := fun ds cs Q _ => ∃ n s m, ds = [.ref n, .int (s : Nat), .int m] ∧ cs n = some .drw ∧ s ≤ 1000 ∧ ∀ q, FoOk q → q.length = s → Q (fD q) cs
theorem spForest_e {n s : Nat} {m : Int} {cs : Cs} {Q : KD} {X : KX} (hc : cs n = some .drw) (hs : s ≤ 1000) (hQ : ∀ q, FoOk q → q.length = s → Q (fD q) cs) : spForest [.ref n, .int (s : Nat), .int m] cs Q X := ⟨_, _, _, rfl, hc, hs, hQ⟩
theorem fo_low {ps : List Nat} (h : ∀ i, i < ps.length → par ps i ≤ i) : FoOk ps := ⟨fun i => i, fun i hi => by
  have := h i hi
  exact ⟨by omega, hi, by
    show par ps i = i ∨ par ps i < i
    omega⟩⟩
theorem nI_snoc {xs : List Nat} {v : Nat} : nI xs ++ [.int (v : Nat)] = nI (xs ++ [v]) := by simp [nI]
theorem par_snoc {ps : List Nat} {v i : Nat} (h : i < ps.length) : par (ps ++ [v]) i = par ps i := by
  unfold par
  rw [List.getD_eq_getElem?_getD, List.getD_eq_getElem?_getD, List.getElem?_append_left h]
theorem par_snoc_last {ps : List Nat} {v : Nat} : par (ps ++ [v]) ps.length = v := by
  unfold par
  rw [List.getD_eq_getElem?_getD, List.getElem?_append_right (Nat.le_refl _)]
  simp
def fS (n : Nat) (s : Nat) (m : Int) (k : Int) (l : Nat) (σ : Sl) : Prop := ∃ a b c, σ = [some (.ref n), some (.int (s : Nat)), some (.int m), some (.int k), some (.ref l), a, b, c]
theorem ok_forest : okFnL 8 (c_l_forest spRen spTake) spForest := by
  rintro ds cs Q X ⟨n, s, m, rfl, hc, hs, hQ⟩
  show wpS (.seq (c_l_forest_1 spRen spTake) (.seq (c_l_forest_9 spRen spTake) (c_l_forest_10 spRen spTake))) [some (.ref n), some (.int (s : Nat)), some (.int m), none, none, none, none, none] cs _
  simp only [wpS]
  rw [c_l_forest_1]
  simp [spTake_e, hc, lim]
  intro k k0 k1 l hl
  have ne : n ≠ l := fun z => by rw [z, hl] at hc; cases hc
  rw [c_l_forest_9]
  simp only [wpS, wpE, wpEs, getV]
  refine rng1_inv (fun j σ c => ∃ ps, c = put cs l (.lst (nI ps)) ∧ fS n s m k l σ ∧ ps.length = j ∧ ∀ i, i < j → par ps i ≤ i) (by omega) (by omega) ⟨[], rfl, ⟨_, _, _, rfl⟩, rfl, fun i hi => by omega⟩ ?_ ?_
  · rintro j σ c hj ⟨ps, rfl, ⟨a, b, c, rfl⟩, hps, hlow⟩ K' h1 h2 h3 h4 h5
    clear h3 h4 h5
    have fin : ∀ (v : Int) (b : Option D), 0 ≤ v → v ≤ j → wpS (c_l_forest_8 spRen spTake) [some (.ref n), some (.int (s : Nat)), some (.int m), some (.int k), some (.ref l), some (.int (j : Nat)), b, some (.int v)] (put cs l (.lst (nI ps))) K' := by
      intro v b v0 v1
      obtain ⟨v, rfl⟩ : ∃ w : Nat, v = w := ⟨v.toNat, by omega⟩
      rw [c_l_forest_8]
      simp [nI_snoc, lim]
      refine ⟨by omega, h1 _ _ ⟨ps ++ [v], rfl, ⟨_, _, _, rfl⟩, by simp [hps], fun i hi => ?_⟩⟩
      by_cases e : i < ps.length
      · rw [par_snoc e]
        exact hlow i (by omega)
      · rw [show i = ps.length by omega, par_snoc_last]
        omega
    have mid7 : ∀ (v : Int) (b : Option D), (j = 0 ∨ 0 ≤ v) → v ≤ j → wpS (c_l_forest_7 spRen spTake) [some (.ref n), some (.int (s : Nat)), some (.int m), some (.int k), some (.ref l), some (.int (j : Nat)), b, some (.int v)] (put cs l (.lst (nI ps))) { nx := fun σ' cs' => wpS (c_l_forest_8 spRen spTake) σ' cs' K', bk := K'.bk, ct := K'.ct, rt := K'.rt, ex := K'.ex } := by
      intro v b v0 v1
      have yes : wpS (c_l_forest_6 spRen spTake) [some (.ref n), some (.int (s : Nat)), some (.int m), some (.int k), some (.ref l), some (.int (j : Nat)), b, some (.int v)] (put cs l (.lst (nI ps))) { nx := fun σ' cs' => wpS (c_l_forest_8 spRen spTake) σ' cs' K', bk := K'.bk, ct := K'.ct, rt := K'.rt, ex := K'.ex } := by
        rw [c_l_forest_6]
        simp
        exact fin _ _ (by omega) (by omega)
      rw [c_l_forest_7]
      simp [spTake_e, put_ne ne, hc]
      by_cases e : j = 0
      · rw [if_pos e]
        exact yes
      · rw [if_neg e]
        have no := fin v b (by omega) v1
        split
        · intro r r0 r1
          split
          · exact yes
          · exact no
        · exact no
    have mid5 : ∀ (v : Int) (b : Option D), (j = 0 ∨ 0 ≤ v) → v ≤ j → wpS (c_l_forest_5 spRen spTake) [some (.ref n), some (.int (s : Nat)), some (.int m), some (.int k), some (.ref l), some (.int (j : Nat)), b, some (.int v)] (put cs l (.lst (nI ps))) { nx := fun σ' cs' => wpS (.seq (c_l_forest_7 spRen spTake) (c_l_forest_8 spRen spTake)) σ' cs' K', bk := K'.bk, ct := K'.ct, rt := K'.rt, ex := K'.ex } := by
      intro v b v0 v1
      simp only [wpS]
      rw [c_l_forest_5]
      simp
      split
      · rw [c_l_forest_4]
        simp [spTake_e, put_ne ne, hc]
        intro r r0 r1
        refine mid7 _ _ ?_ ?_
        · right
          split <;> omega
        · split <;> omega
      · exact mid7 _ _ v0 v1
    show wpS (.seq (c_l_forest_2 spRen spTake) (.seq (c_l_forest_3 spRen spTake) (.seq (c_l_forest_5 spRen spTake) (.seq (c_l_forest_7 spRen spTake) (c_l_forest_8 spRen spTake))))) _ _ _
    simp only [wpS] at mid5 ⊢
    simp only [List.set]
    rw [c_l_forest_2]
    simp [lim]
    rw [c_l_forest_3]
    simp [spTake_e, put_ne ne, hc]
    split
    · rename_i k4
      have k3 : k = 0 ∨ k = 1 ∨ k = 2 ∨ k = 3 := by omega
      rcases k3 with e | e | e | e <;> subst e <;> simp <;> refine mid5 _ _ ?_ ?_ <;> (try split) <;> omega
    · split
      · refine ⟨by omega, by omega, fun r r0 r1 => mid5 _ _ (.inr r0) (by omega)⟩
      · refine ⟨by omega, by omega, fun r r0 r1 => mid5 _ _ (.inr r0) (by omega)⟩
  · rintro σ c ⟨ps, rfl, ⟨a, b, c, rfl⟩, hps, hlow⟩
    have hps : ps.length = s := by simpa using hps
    rw [c_l_forest_10]
    simp
    refine spRen_e (by rw [put_ne ne]; exact hc) (fun s e => by cases e) (fun c hc => ?_) (fo_low fun i hi => hlow i (by simpa [hps] using hi)) (by omega) fun q h1 h2 => ⟨cs, (Le.refl _).put hl, hQ q h1 (by omega)⟩
    exact getQ_cell (hc l _ put_same)
def spSome : Spec := fun ds cs Q _ => ∃ n m, ds = [.ref n, .int m] ∧ cs n = some .drw ∧ 0 ≤ m ∧ m ≤ 1000 ∧ ∀ q, FoOk q → (q.length : Int) ≤ m → Q (fD q) cs
theorem spSome_e {n : Nat} {m : Int} {cs : Cs} {Q : KD} {X : KX} (hc : cs n = some .drw) (h0 : 0 ≤ m) (h1 : m ≤ 1000) (hQ : ∀ q, FoOk q → (q.length : Int) ≤ m → Q (fD q) cs) : spSome [.ref n, .int m] cs Q X := ⟨_, _, rfl, hc, h0, h1, hQ⟩
theorem ok_some : okFn 2 (c_l_some_forest spForest spSize spTake) spSome := by
  rintro ds cs Q X ⟨n, m, rfl, hc, h0, h1, hQ⟩
  show wpS (c_l_some_forest_1 spForest spSize spTake) [some (.ref n), some (.int m)] cs _
  rw [c_l_some_forest_1]
  simp only [wpS, wpE, wpEs, getV]
  refine spSize_e hc h0 h1 fun s hs => ?_
  simp [spTake_e, hc]
  intro r r0 r1
  exact spForest_e hc (by omega) fun q a b => hQ q a (by omega)
def spNodes : Spec := fun ds cs Q _ => ∃ n s m, ds = [.ref n, .int (s : Nat), .int m] ∧ cs n = some .drw ∧ s ≤ 1000 ∧ 0 ≤ m ∧ m ≤ 1000 ∧ ∀ xs : List Nat, (∀ i ∈ xs, i < s) → (xs.length : Int) ≤ m → Q (lD xs) cs
theorem spNodes_e {n s : Nat} {m : Int} {cs : Cs} {Q : KD} {X : KX} (hc : cs n = some .drw) (hs : s ≤ 1000) (h0 : 0 ≤ m) (h1 : m ≤ 1000) (hQ : ∀ xs : List Nat, (∀ i ∈ xs, i < s) → (xs.length : Int) ≤ m → Q (lD xs) cs) : spNodes [.ref n, .int (s : Nat), .int m] cs Q X := ⟨_, _, _, rfl, hc, hs, h0, h1, hQ⟩
theorem to_nI {s : Nat} : ∀ {ys : List D}, (∀ y ∈ ys, ∃ i : Nat, i < s ∧ y = .int (i : Nat)) → ∃ xs : List Nat, ys = nI xs ∧ ∀ i ∈ xs, i < s
  | [], _ => ⟨[], rfl, by simp⟩
  | y :: ys, h => by
    obtain ⟨xs, e, hx⟩ := to_nI fun z hz => h z (List.mem_cons_of_mem _ hz)
    obtain ⟨i, hi, ey⟩ := h y List.mem_cons_self
    refine ⟨i :: xs, by rw [e, ey]; rfl, fun j hj => ?_⟩
    rcases List.mem_cons.mp hj with z | z
    · rw [z]
      exact hi
    · exact hx j z
theorem cutHi_l {xs : List D} {i : Nat} {cs : Cs} {Q : KD} {X : KX} : sCutHi [.lst xs, .int (i : Nat)] cs Q X = Q (.lst (xs.take i)) cs := by
  show Q (.lst (cutD xs none (some (i : Nat)))) cs = _
  congr 2
  unfold cutD sIxAt
  simp
  rw [if_neg (by omega)]
  omega
theorem ok_nodes : okFn 5 (c_l_nodes spOf spShuf spTake) spNodes := by
  rintro ds cs Q X ⟨n, s, m, rfl, hc, hs, h0, h1, hQ⟩
  show wpS (.seq (c_l_nodes_2 spOf spShuf spTake) (.seq (c_l_nodes_3 spOf spShuf spTake) (c_l_nodes_4 spOf spShuf spTake))) [some (.ref n), some (.int (s : Nat)), some (.int m), none, none] cs _
  simp only [wpS]
  rw [c_l_nodes_2]
  simp
  by_cases e : s = 0
  · rw [if_pos e, c_l_nodes_1]
    simp [lim]
    exact hQ [] (by simp) (by simpa using h0)
  rw [if_neg e, c_l_nodes_3]
  simp only [wpS, wpE, wpEs, bindP, getV, List.set, sListRg_e]
  refine ⟨by omega, by omega, by omega, by omega, show _ ≤ 16777216 by omega, ?_⟩
  rw [rgD_nI]
  refine spShuf_e hc (.inl rfl) (by rw [nI_len, List.length_range]; omega) fun ys hys => ?_
  obtain ⟨zs, hp, rfl⟩ := perm_map_inv hys (List.range s) rfl
  simp only [spTake_e]
  refine ⟨hc, by decide, by decide, fun r r0 r1 => ?_⟩
  obtain ⟨k, rfl⟩ : ∃ k : Nat, r = k := ⟨r.toNat, by omega⟩
  simp only [sAdd_i]
  rw [show (1 : Int) + (k : Int) = ((k + 1 : Nat) : Int) by omega, cutHi_l]
  have ez : zs.length = s := by rw [hp.length_eq, List.length_range]
  have hin : ∀ i ∈ zs, i < s := fun i hi => List.mem_range.mp (hp.mem_iff.mp hi)
  have et : (List.map (fun n => D.int (n : Nat)) zs).take (k + 1) = nI (zs.take (k + 1)) := by simp [nI, List.map_take]
  show wpS (c_l_nodes_4 spOf spShuf spTake) [some (.ref n), some (.int (s : Nat)), some (.int m), some (.lst ((List.map (fun n => D.int (n : Nat)) zs).take (k + 1))), none] cs _
  rw [et, c_l_nodes_4]
  simp only [wpS, wpE, wpEs, getV, sAdd_i, spTake_e]
  refine ⟨hc, by omega, by omega, fun r r0 r1 => ⟨by omega, by omega, ?_⟩⟩
  have lr : (rgD 0 r).length = r.toNat := by rw [rgD_length]; omega
  refine compL_all (fun y => ∃ i : Nat, i < s ∧ y = .int (i : Nat)) trivial _ [] (fun x hx => ⟨_, rfl, fun K h => h, fun K h => ?_⟩) (show _ ≤ 16777216 by simp [lr]; omega) fun ys h2 h3 => ?_
  · simp only [wipe, List.set, getV, sListRg_e]
    refine ⟨by omega, by omega, by omega, by omega, show _ ≤ 16777216 by omega, ?_⟩
    simp only [sList_e, spOf_e]
    refine ⟨show 2 ≤ 16777216 by decide, hc, fun s z => (by cases z), _, rfl, List.cons_ne_nil _ _, show 2 ≤ 16777216 by decide, fun d hd => ?_⟩
    rw [rgD_nI] at hd
    have inner : ∀ xs : List Nat, xs ≠ [] → xs.length ≤ 1000 → (∀ i ∈ xs, i < s) → cs n = some Ob.drw ∧ (∀ s, lD xs ≠ .str s) ∧ ∃ zs, getQ (lD xs) cs = some zs ∧ zs ≠ [] ∧ zs.length ≤ lim ∧ ∀ d ∈ zs, K d cs := fun xs ne hl hx => by
      refine ⟨hc, fun s z => (by cases z), nI xs, rfl, ?_, show _ ≤ 16777216 by simp; omega, fun d hd => ?_⟩
      · intro z
        have := congrArg List.length z
        simp at this
        exact ne this
      · obtain ⟨i, hi, e⟩ := List.mem_map.mp hd
        exact h d ⟨i, hx i hi, e.symm⟩
    rcases List.mem_cons.mp hd with z | z
    · subst z
      exact inner _ (by simp [e]) (by simpa using hs) fun i hi => List.mem_range.mp hi
    · have z := List.mem_singleton.mp z
      subst z
      exact inner _ (fun z => by have := congrArg List.length z; simp [ez] at this; omega) (by simp; omega) fun i hi => hin i (List.mem_of_mem_take hi)
  · obtain ⟨xs, e2, hx⟩ := to_nI h3
    subst e2
    rw [List.nil_append]
    simp [lr] at h2
    exact hQ xs hx (by omega)
end G

/-! GFoF: more rewriting rules for lists of nodes. -/
namespace G
open PySem (Str)
@[simp] theorem sRev_l {xs : List D} {cs : Cs} {Q : KD} {X : KX} : sRev [.lst xs] cs Q X = Q (.lst xs.reverse) cs := rfl
theorem sRev_lD {xs : List Nat} {cs : Cs} {Q : KD} {X : KX} : sRev [lD xs] cs Q X = Q (lD xs.reverse) cs := by
  show Q (.lst (nI xs).reverse) cs = _
  simp [nI, lD]
theorem nI_ofNat {xs : List Nat} : nI xs = (xs.map fun n : Nat => (n : Int)).map D.int := by simp [nI]
theorem sSorted_lD {xs : List Nat} {cs : Cs} {Q : KD} {X : KX} (h : ∀ ys : List Nat, ys.Perm xs → ys.Pairwise (· ≤ ·) → Q (lD ys) cs) : sSorted [lD xs] cs Q X := by
  show ∃ ns : List Int, nI xs = ns.map D.int ∧ ∀ ns' : List Int, ns'.Perm ns → ns'.Pairwise (· ≤ ·) → Q (.lst (ns'.map D.int)) cs
  refine ⟨_, nI_ofNat, fun ms hp hs => ?_⟩
  obtain ⟨ys, h1, h2⟩ := perm_map_inv hp xs rfl
  subst h2
  rw [← nI_ofNat]
  refine h ys h1 ?_
  rw [List.pairwise_map] at hs
  exact hs.imp fun h => by omega
theorem sSortSet_lD {xs : List Nat} {cs : Cs} {Q : KD} {X : KX} (hl : xs.length ≤ 4000) (hb : ∀ i ∈ xs, i < 63) (h : ∀ ys : List Nat, ys.Pairwise (· < ·) → (∀ i, i ∈ ys ↔ i ∈ xs) → Q (lD ys) cs) : sSortSet [lD xs] cs Q X := by
  show ∃ ns : List Int, nI xs = ns.map D.int ∧ ns.length ≤ 4000 ∧ (∀ k ∈ ns, 0 ≤ k ∧ k < 63) ∧ ∀ ms : List Int, ms.Pairwise (· < ·) → (∀ k, k ∈ ms ↔ k ∈ ns) → Q (.lst (ms.map D.int)) cs
  refine ⟨_, nI_ofNat, by simpa using hl, fun k hk => ?_, fun ms hs hm => ?_⟩
  · obtain ⟨i, hi, e⟩ := List.mem_map.mp hk
    have := hb i hi
    omega
  · have em : ms = (ms.map Int.toNat).map fun n : Nat => (n : Int) := by
      rw [List.map_map]
      have : ∀ k ∈ ms, ((fun n : Nat => (n : Int)) ∘ Int.toNat) k = k := fun k hk => by
        obtain ⟨i, hi, e⟩ := List.mem_map.mp ((hm k).mp hk)
        show ((k.toNat : Nat) : Int) = k
        omega
      rw [List.map_congr_left this, List.map_id']
    rw [em] at hs hm ⊢
    rw [← nI_ofNat]
    refine h _ ?_ fun i => ?_
    · rw [List.pairwise_map] at hs
      exact hs.imp fun h => by omega
    · have := hm (i : Int)
      constructor
      · intro hi
        obtain ⟨j, hj, e⟩ := List.mem_map.mp (this.mp (List.mem_map.mpr ⟨i, hi, rfl⟩))
        have : j = i := by omega
        rw [← this]
        exact hj
      · intro hi
        obtain ⟨j, hj, e⟩ := List.mem_map.mp (this.mpr (List.mem_map.mpr ⟨i, hi, rfl⟩))
        have : j = i := by omega
        rw [← this]
        exact hj
theorem purs_nI {k : Nat} {xs : List Nat} : purs k (nI xs) = true := purs_of fun x hx => by
  obtain ⟨i, _, e⟩ := List.mem_map.mp hx
  rw [← e]
  cases k <;> rfl
theorem pur_lD {k : Nat} {xs : List Nat} (h : xs.length ≤ 16777216) : pur (k + 1) (lD xs) = true := by
  show (decide ((nI xs).length ≤ lim) && purs k (nI xs)) = true
  rw [purs_nI, nI_len, decide_eq_true (show xs.length ≤ lim from h)]
  rfl
theorem pur_fD {k : Nat} {xs : List Nat} (h : xs.length ≤ 16777216) : pur (k + 1) (fD xs) = true := by
  show (decide ((nI xs).length ≤ lim) && purs k (nI xs)) = true
  rw [purs_nI, nI_len, decide_eq_true (show xs.length ≤ lim from h)]
  rfl
theorem sNe_fD {p : List Nat} {cs : Cs} {Q : KD} {X : KX} (h : p.length ≤ 16777216) : sNe [fD p, fD p] cs Q X = Q (.bl false) cs := by
  rw [sNe_e]
  have e : deref cs (fD p) = fD p := rfl
  rw [e, pur_fD (k := 63) h, eqD_refl 64 _ (pur_fD (k := 63) h)]
  simp
theorem sEq_fD {p : List Nat} {cs : Cs} {Q : KD} {X : KX} (h : p.length ≤ 16777216) : sEq [fD p, fD p] cs Q X = Q (.bl true) cs := by
  rw [sEq_e]
  have e : deref cs (fD p) = fD p := rfl
  rw [e, pur_fD (k := 63) h, eqD_refl 64 _ (pur_fD (k := 63) h)]
  simp
theorem asInts_nI {xs : List Nat} : asInts (nI xs) = some (xs.map fun n : Nat => (n : Int)) := by
  induction xs with
  | nil => rfl
  | cons x xs ih =>
    show (asInts (nI xs)).map ((x : Int) :: ·) = _
    rw [ih]
    rfl
theorem sum_ofNat {xs : List Nat} : (xs.map fun n : Nat => (n : Int)).sum = ((xs.sum : Nat) : Int) := by
  induction xs with
  | nil => rfl
  | cons x xs ih =>
    rw [List.map_cons, List.sum_cons, List.sum_cons, ih]
    omega
theorem sSum_lD {xs : List Nat} {cs : Cs} {Q : KD} {X : KX} : sSum [lD xs] cs Q X = Q (.int (xs.sum : Nat)) cs := by
  show (match asInts (nI xs) with
    | some ns => Q (.int ns.sum) cs
    | none => False) = _
  rw [asInts_nI, ← sum_ofNat]
theorem cutHi_neg {xs : List Nat} {cs : Cs} {Q : KD} {X : KX} : sCutHi [lD xs, .int (-1)] cs Q X = Q (lD xs.dropLast) cs := by
  show Q (.lst (cutD (nI xs) none (some (-1)))) cs = _
  have e : cutD (nI xs) none (some (-1)) = nI xs.dropLast := by
    unfold cutD sIxAt
    simp [nI, List.dropLast_eq_take, List.map_take]
    omega
  rw [e]
  rfl
theorem mem_drop {p : List Nat} (h : FoOk p) {i j : Nat} (hi : i < p.length) : j ∈ (path p i).dropLast ↔ j ∈ path p i ∧ j ≠ root p i := by
  have e := path_split (p := p) (i := i)
  have n := path_nodup h i hi
  rw [e] at n
  have n2 := List.nodup_append.mp n
  constructor
  · intro hj
    refine ⟨by rw [e]; exact List.mem_append_left _ hj, fun z => ?_⟩
    exact n2.2.2 j hj (root p i) (by simp) z
  · rintro ⟨h1, h2⟩
    rw [e] at h1
    rcases List.mem_append.mp h1 with z | z
    · exact z
    · exact absurd (List.mem_singleton.mp z) h2
theorem fndAll_perm {p : List Nat} (h : FoOk p) {xs ys : List Nat} (hx : ∀ i ∈ xs, i < p.length) (hp : ys.Perm xs) : (fndAll p ys).1 = (fndAll p xs).1 ∧ (fndAll p ys).2.sum = (fndAll p xs).2.sum := by
  have a := fndAll_eq h hx
  have b := fndAll_eq h (xs := ys) fun i hi => hx i (hp.mem_iff.mp hi)
  have e : mk p ys = mk p xs := mk_congr fun i => hp.mem_iff
  have s : (ys.map (nroot p)).sum = (xs.map (nroot p)).sum := (hp.map _).sum_nat
  rw [a.1, b.1, a.2, b.2, e, s]
  exact ⟨rfl, rfl⟩
theorem fndAll_set {p : List Nat} (h : FoOk p) {xs ys : List Nat} (hx : ∀ i ∈ xs, i < p.length) (hp : ∀ i, i ∈ ys ↔ i ∈ xs) : (fndAll p ys).1 = (fndAll p xs).1 := by
  rw [(fndAll_eq h hx).1, (fndAll_eq h (xs := ys) fun i hi => hx i ((hp i).mp hi)).1, mk_congr hp]
end G

/-! GWay: marked nodes, ways from a forest to another. -/
namespace G
open PySem (Str)
theorem comp_filter {k : Nat} {grd : Cs → Prop} {σ : Sl} {tst elt : Sl → Cs → KD → Prop} {Q : List D → Cs → Prop} {cs : Cs} (t : Nat → Bool) (xs : List Nat) (hg : grd cs)
    (h : ∀ i ∈ xs, (∀ K : KD, K (.bl (t i)) cs → tst (σ.set k (some (.int (i : Nat)))) cs K) ∧ (∀ K : KD, K (.int (i : Nat)) cs → elt (σ.set k (some (.int (i : Nat)))) cs K)) (hl : xs.length ≤ 16777216) (hQ : Q (nI (xs.filter t)) cs) :
    compL (.nm k) grd σ tst elt Q (nI xs) [] cs := by
  refine compL_pure (fun d => match d with
    | .int i => t i.toNat
    | _ => false) id hg _ _ (fun d hd => ?_) (show _ ≤ 16777216 by simpa using hl) ?_
  · obtain ⟨i, hi, rfl⟩ := List.mem_map.mp hd
    exact ⟨_, rfl, (h i hi).1, fun _ => (h i hi).2⟩
  · have e : (nI xs).filter (fun d => match d with
        | .int i => t i.toNat
        | _ => false) = nI (xs.filter t) := by
      unfold nI
      rw [List.filter_map]
      rfl
    rw [e, List.nil_append, List.map_id]
    exact hQ
theorem sorted_ext : ∀ {xs ys : List Nat}, xs.Pairwise (· < ·) → ys.Pairwise (· < ·) → (∀ i, i ∈ xs ↔ i ∈ ys) → xs = ys
  | [], ys, _, _, h => by
    cases ys with
    | nil => rfl
    | cons y ys => exact absurd ((h y).mpr List.mem_cons_self) (by simp)
  | x :: xs, [], _, _, h => absurd ((h x).mp List.mem_cons_self) (by simp)
  | x :: xs, y :: ys, hx, hy, h => by
    have hx := List.pairwise_cons.mp hx
    have hy := List.pairwise_cons.mp hy
    have e : x = y := by
      rcases List.mem_cons.mp ((h x).mp List.mem_cons_self) with a | a
      · exact a
      · rcases List.mem_cons.mp ((h y).mpr List.mem_cons_self) with b | b
        · exact b.symm
        · have := hy.1 x a
          have := hx.1 y b
          omega
    subst e
    rw [sorted_ext hx.2 hy.2 fun i => ?_]
    have hi := h i
    constructor
    · intro a
      rcases List.mem_cons.mp (hi.mp (List.mem_cons_of_mem _ a)) with b | b
      · have := hx.1 i a
        omega
      · exact b
    · intro a
      rcases List.mem_cons.mp (hi.mpr (List.mem_cons_of_mem _ a)) with b | b
      · have := hy.1 i a
        omega
      · exact b
theorem range_sorted {n : Nat} {t : Nat → Bool} : ((List.range n).filter t).Pairwise (· < ·) := List.Pairwise.filter _ List.pairwise_lt_range
/-! ### promises -/
def spDep : Spec := fun ds cs Q _ => ∃ p i, ds = [fD p, .int (i : Nat)] ∧ FoOk p ∧ i < p.length ∧ p.length ≤ 1000 ∧ Q (.int (cst p i : Nat)) cs
theorem spDep_e {p : List Nat} {i : Nat} {cs : Cs} {Q : KD} {X : KX} (h : FoOk p) (hi : i < p.length) (hl : p.length ≤ 1000) (hQ : Q (.int (cst p i : Nat)) cs) : spDep [fD p, .int (i : Nat)] cs Q X := ⟨_, _, rfl, h, hi, hl, hQ⟩
theorem len_lD {p : List Nat} {cs : Cs} {Q : KD} {X : KX} : sLen [lD p] cs Q X = Q (.int (p.length : Nat)) cs := by
  rw [sLen_e (by intro s e; cases e)]
  simp only [getQ_lD, nI_len]
theorem ok_depth : okFn 2 (c_depth_of spPath) spDep := by
  rintro ds cs Q X ⟨p, i, rfl, h, hi, hl, hQ⟩
  show wpS (c_depth_of_1 spPath) [some (fD p), some (.int (i : Nat))] cs _
  rw [c_depth_of_1]
  simp only [wpS, wpE, wpEs, getV]
  refine spPath_e h hi hl ?_
  simp only [len_lD, sSub_i]
  have l0 : 0 < (path p i).length := List.length_pos_iff.mpr (path_ne i)
  rw [show (((path p i).length : Nat) : Int) - 1 = ((cst p i : Nat) : Int) by unfold cst; omega]
  exact hQ
def sub (p : List Nat) (i : Nat) : List Nat := (List.range p.length).filter fun j => decide (i ∈ path p j)
def spSub : Spec := fun ds cs Q _ => ∃ p i, ds = [fD p, .int (i : Nat)] ∧ FoOk p ∧ i < p.length ∧ p.length ≤ 1000 ∧ Q (lD (sub p i)) cs
theorem spSub_e {p : List Nat} {i : Nat} {cs : Cs} {Q : KD} {X : KX} (h : FoOk p) (hi : i < p.length) (hl : p.length ≤ 1000) (hQ : Q (lD (sub p i)) cs) : spSub [fD p, .int (i : Nat)] cs Q X := ⟨_, _, rfl, h, hi, hl, hQ⟩
theorem ok_sub : okFn 3 (c_subtree_of spNeed spPath) spSub := by
  rintro ds cs Q X ⟨p, i, rfl, h, hi, hl, hQ⟩
  show wpS (.seq (c_subtree_of_1 spNeed spPath) (c_subtree_of_2 spNeed spPath)) [some (fD p), some (.int (i : Nat)), none] cs _
  simp only [wpS]
  rw [c_subtree_of_1]
  simp only [wpS, wpE, wpEs, getV]
  refine spNeed_e ⟨by omega, by omega⟩ ?_
  rw [c_subtree_of_2]
  simp only [wpS, wpE, wpEs, getV, len_fD]
  refine ⟨by omega, by omega, ?_⟩
  rw [rgD_nI]
  refine comp_filter (fun j => decide (i ∈ path p j)) _ trivial (fun j hj => ⟨fun K hK => ?_, fun K hK => hK⟩) (by simp; omega) hQ
  simp only [wipe, List.set, getV]
  refine spPath_e h (List.mem_range.mp hj) hl ?_
  rw [sIn_e]
  simp only [getQ_lD, nI_flat, inD_nI]
  exact ⟨rfl, trivial, hK⟩
def spMark : Spec := fun ds cs Q _ => ∃ p x xs, ds = [fD p, x] ∧ isSeq x (nI xs) ∧ FoOk p ∧ (∀ i ∈ xs, i < p.length) ∧ p.length ≤ 60 ∧ xs.length ≤ 60 ∧ Q (lD ((List.range p.length).filter (mk p xs))) cs
theorem spMark_e {p xs : List Nat} {x : D} {cs : Cs} {Q : KD} {X : KX} (hs : isSeq x (nI xs)) (h : FoOk p) (hx : ∀ i ∈ xs, i < p.length) (hl : p.length ≤ 60) (hm : xs.length ≤ 60) (hQ : Q (lD ((List.range p.length).filter (mk p xs))) cs) : spMark [fD p, x] cs Q X := ⟨_, _, _, rfl, hs, h, hx, hl, hm, hQ⟩
theorem ok_mark : okFn 4 (c_marked_nodes spPath) spMark := by
  rintro ds cs Q X ⟨p, x, xs, rfl, hs, h, hx, hl, hm, hQ⟩
  show wpS (.seq (c_marked_nodes_1 spPath) (.seq (c_marked_nodes_3 spPath) (c_marked_nodes_4 spPath))) [some (fD p), some x, none, none] cs _
  simp only [wpS]
  rw [c_marked_nodes_1]
  simp [lim]
  rw [c_marked_nodes_3]
  simp only [wpS, wpE, wpEs, getV]
  refine iSeq_e hs (forL_inv (fun j σ c => c = cs ∧ ∃ (ms : List Nat) (a : Option D), σ = [some (fD p), some x, some (lD ms), a] ∧ ms.length ≤ j * 60 ∧ ∀ k, k ∈ ms ↔ ∃ i ∈ xs.take j, k ∈ (path p i).dropLast) _ 0 ⟨rfl, [], _, rfl, by simp, by simp⟩ (fun _ _ _ _ _ _ => hs.g) ?_ ?_)
  · rintro j d σ c hd ⟨rfl, ms, a, rfl, hml, hmm⟩
    have hj : j < xs.length := by simpa using (List.getElem?_eq_some_iff.mp hd).1
    rw [nI_get hj] at hd
    cases hd
    have hi := hx _ (List.getElem_mem hj)
    refine ⟨_, rfl, fun K' h1 h2 h3 h4 h5 => ?_⟩
    clear h3 h4 h5 h2
    rw [c_marked_nodes_2]
    simp only [wpS, wpE, wpEs, bindP, getV, List.set]
    refine spPath_e h hi (by omega) ?_
    simp only [sNeg_e, cutHi_neg]
    have pl := path_le h hi
    have dl : (path p xs[j]).dropLast.length ≤ 60 := by rw [List.length_dropLast]; omega
    rw [Nat.zero_add] at hml hmm h1
    refine ⟨show _ ≤ 16777216 by simp; omega, h1 _ _ ⟨rfl, ms ++ (path p xs[j]).dropLast, some (.int (xs[j] : Nat)), ?_, ?_, fun k => ?_⟩⟩
    · simp [nI, lD]
    · rw [List.length_append, Nat.add_mul]
      omega
    · rw [List.mem_append, hmm k, List.take_succ_eq_append_getElem hj]
      simp only [List.mem_append, List.mem_singleton]
      constructor
      · rintro (⟨i, a, b⟩ | b)
        · exact ⟨i, .inl a, b⟩
        · exact ⟨_, .inr rfl, b⟩
      · rintro ⟨i, a | a, b⟩
        · exact .inl ⟨i, a, b⟩
        · rw [a] at b
          exact .inr b
  · rintro σ c ⟨rfl, ms, a, rfl, hml, hmm⟩
    rw [nI_len, Nat.zero_add, List.take_length] at hmm
    rw [nI_len, Nat.zero_add] at hml
    have hmk : ∀ k, mk p xs k = true ↔ k ∈ ms := fun k => by
      rw [hmm k]
      unfold mk
      rw [List.any_eq_true]
      constructor
      · rintro ⟨i, hi, e⟩
        have e := Bool.and_eq_true_iff.mp e
        exact ⟨i, hi, (mem_drop h (hx i hi)).mpr ⟨of_decide_eq_true e.1, of_decide_eq_true e.2⟩⟩
      · rintro ⟨i, hi, e⟩
        have e := (mem_drop h (hx i hi)).mp e
        exact ⟨i, hi, by rw [decide_eq_true e.1, decide_eq_true e.2]; rfl⟩
    have low : ∀ k ∈ ms, k < p.length := fun k hk => by
      obtain ⟨i, hi, e⟩ := (hmm k).mp hk
      exact path_lt h i (hx i hi) k ((mem_drop h (hx i hi)).mp e).1
    rw [c_marked_nodes_4]
    simp only [wpS, wpE, wpEs, getV]
    refine sSortSet_lD (by have : ms.length ≤ 60 * 60 := Nat.le_trans hml (Nat.mul_le_mul_right _ hm); omega) (fun k hk => by have := low k hk; omega) fun ys h1 h2 => ?_
    have e : ys = (List.range p.length).filter (mk p xs) := sorted_ext h1 range_sorted fun i => by
      rw [h2 i, List.mem_filter, List.mem_range, hmk i]
      exact ⟨fun z => ⟨low i z, z⟩, fun z => z.2⟩
    rw [e]
    exact hQ
def spAfter : Spec := fun ds cs Q _ => ∃ p x xs, ds = [fD p, x] ∧ isSeq x (nI xs) ∧ FoOk p ∧ (∀ i ∈ xs, i < p.length) ∧ p.length ≤ 60 ∧ xs.length ≤ 60 ∧ Q (fD (flt p (mk p xs))) cs
theorem spAfter_e {p xs : List Nat} {x : D} {cs : Cs} {Q : KD} {X : KX} (hs : isSeq x (nI xs)) (h : FoOk p) (hx : ∀ i ∈ xs, i < p.length) (hl : p.length ≤ 60) (hm : xs.length ≤ 60) (hQ : Q (fD (flt p (mk p xs))) cs) : spAfter [fD p, x] cs Q X := ⟨_, _, _, rfl, hs, h, hx, hl, hm, hQ⟩
theorem mem_rf {n i : Nat} {t : Nat → Bool} (h : i < n) : i ∈ (List.range n).filter t ↔ t i = true := by
  rw [List.mem_filter, List.mem_range]
  exact ⟨fun z => z.2, fun z => ⟨h, z⟩⟩
theorem ok_after : okFn 5 (c_forest_after spMark spRoot) spAfter := by
  rintro ds cs Q X ⟨p, x, xs, rfl, hs, h, hx, hl, hm, hQ⟩
  show wpS (.seq (c_forest_after_1 spMark spRoot) (c_forest_after_2 spMark spRoot)) [some (fD p), some x, none, none, none] cs _
  simp only [wpS]
  rw [c_forest_after_1]
  simp only [wpS, wpE, wpEs, bindP, getV, List.set]
  refine spMark_e hs h hx hl hm ?_
  rw [c_forest_after_2]
  simp only [wpS, wpE, wpEs, getV]
  show compL _ _ _ _ _ _ (enumD 0 (nI p)) [] cs
  rw [enumD_nI]
  refine compL_map (fun d => match d with
    | .tup [.int i, y] => if mk p xs i.toNat then .int (root p i.toNat : Nat) else y
    | d => d) trivial _ _ (fun d hd => ?_) (show _ ≤ 16777216 by simp; omega) ?_
  · obtain ⟨i, hi, rfl⟩ := List.mem_map.mp hd
    have hi := List.mem_range.mp hi
    refine ⟨_, rfl, fun K h => h, fun K hK => ?_⟩
    simp [wipe, sIn_e, getQ_lD, flat, inD_nI, hi]
    by_cases e : mk p xs i = true
    · rw [if_pos e]
      simp [e] at hK
      exact spRoot_e h hi (by omega) hK
    · rw [if_neg e]
      simp [e] at hK
      exact hK
  · rw [List.nil_append, List.map_map]
    have e : (List.map ((fun d => match d with
        | D.tup [D.int i, y] => if mk p xs i.toNat then D.int (root p i.toNat : Nat) else y
        | d => d) ∘ fun i => D.tup [D.int (i : Nat), D.int (par p i : Nat)]) (List.range p.length)) = nI (flt p (mk p xs)) := by
      unfold nI flt
      rw [List.map_map]
      refine List.map_congr_left fun i hi => ?_
      simp
      split <;> rfl
    rw [e]
    exact hQ
theorem deep_cst {p : List Nat} (h : FoOk p) {i : Nat} (hi : i < p.length) : decide (1 < cst p i) = deep p i := by
  unfold cst deep
  by_cases e : par p i = i
  · rw [path_root h hi e]
    simp [e]
  · rw [path_step h hi e]
    have hp := par_lt h hi
    by_cases e2 : par p (par p i) = par p i
    · rw [path_root h hp e2]
      simp [e2]
    · rw [path_step h hp e2]
      have l0 : 0 < (path p (par p (par p i))).length := List.length_pos_iff.mpr (path_ne _)
      simp [e, e2]
      omega
def tot (p xs : List Nat) : Nat := dm p (mk p xs) + (xs.map (nroot p)).sum
def spTot : Spec := fun ds cs Q _ => ∃ p x xs, ds = [fD p, x] ∧ isSeq x (nI xs) ∧ FoOk p ∧ (∀ i ∈ xs, i < p.length) ∧ p.length ≤ 60 ∧ xs.length ≤ 60 ∧ Q (.int (tot p xs : Nat)) cs
theorem spTot_e {p xs : List Nat} {x : D} {cs : Cs} {Q : KD} {X : KX} (hs : isSeq x (nI xs)) (h : FoOk p) (hx : ∀ i ∈ xs, i < p.length) (hl : p.length ≤ 60) (hm : xs.length ≤ 60) (hQ : Q (.int (tot p xs : Nat)) cs) : spTot [fD p, x] cs Q X := ⟨_, _, _, rfl, hs, h, hx, hl, hm, hQ⟩
theorem sum_nroot {p : List Nat} : ∀ xs : List Nat, (xs.map (nroot p)).sum = (xs.filter fun i => !decide (par p i = i)).length
  | [] => rfl
  | x :: xs => by
    rw [List.map_cons, List.sum_cons, sum_nroot xs, List.filter_cons]
    unfold nroot
    by_cases e : par p x = x
    · simp [e]
    · simp [e]
      omega
theorem ok_tot : okFn 4 (c_total_cost spDep spMark) spTot := by
  rintro ds cs Q X ⟨p, x, xs, rfl, hs, h, hx, hl, hm, hQ⟩
  show wpS (.seq (c_total_cost_1 spDep spMark) (c_total_cost_2 spDep spMark)) [some (fD p), some x, none, none] cs _
  simp only [wpS]
  rw [c_total_cost_1]
  simp only [wpS, wpE, wpEs, bindP, getV, List.set]
  refine spMark_e hs h hx hl hm ?_
  have ml : ((List.range p.length).filter (mk p xs)).length ≤ 60 := Nat.le_trans (List.length_filter_le _ _) (by simp; omega)
  refine iSeq_e (.inl rfl) (comp_filter (deep p) _ trivial (fun j hj => ⟨fun K hK => ?_, fun K hK => hK⟩) (by omega) ?_)
  · simp only [wipe, List.set, getV]
    have hj := List.mem_range.mp (List.mem_filter.mp hj).1
    refine spDep_e h hj (by omega) ?_
    simp only [sGt_i]
    have e : decide ((1 : Int) < ((cst p j : Nat) : Int)) = deep p j := by
      rw [← deep_cst h hj, decide_eq_decide]
      omega
    rw [e]
    exact hK
  rw [if_neg Bool.false_ne_true, c_total_cost_2]
  simp only [wpS, wpE, wpEs, bindP, getV, List.set]
  rw [show sLen [.lst (nI (List.filter (deep p) ((List.range p.length).filter (mk p xs))))] = sLen [lD (List.filter (deep p) ((List.range p.length).filter (mk p xs)))] from rfl, len_lD]
  refine iSeq_e hs (comp_filter (fun i => !decide (par p i = i)) _ hs.g (fun j hj => ⟨fun K hK => ?_, fun K hK => hK⟩) (by omega) ?_)
  · simp only [wipe, List.set, getV]
    simp [sIx_e, getQ_fD, ix_par (hx j hj)]
    simpa using hK
  rw [if_neg Bool.false_ne_true]
  rw [show sLen [.lst (nI (List.filter (fun i => !decide (par p i = i)) xs))] = sLen [lD (List.filter (fun i => !decide (par p i = i)) xs)] from rfl, len_lD, sAdd_i, ← sum_nroot]
  have e : (((List.range p.length).filter (mk p xs)).filter (deep p)).length = dm p (mk p xs) := by
    unfold dm
    rw [List.countP_eq_length_filter, List.filter_filter]
    congr 2
    funext j
    cases mk p xs j <;> cases deep p j <;> rfl
  rw [e]
  have := hQ
  unfold tot at this
  rw [Int.natCast_add] at this
  exact this
/-! ### ways -/
def chg (p q : List Nat) : List Nat := (List.range p.length).filter fun i => !decide (par p i = par q i)
structure Pair (p q : List Nat) : Prop where
  len : q.length = p.length
  rts : ∀ i, i < p.length → (par p i = i ↔ par q i = i)
def spPair : Spec := fun ds cs Q _ => ∃ p q, ds = [fD p, fD q] ∧ Pair p q ∧ p.length ≤ 1000 ∧ Q .non cs
theorem spPair_e {p q : List Nat} {cs : Cs} {Q : KD} {X : KX} (h : Pair p q) (hl : p.length ≤ 1000) (hQ : Q .non cs) : spPair [fD p, fD q] cs Q X := ⟨_, _, rfl, h, hl, hQ⟩
theorem sNe_nil {cs : Cs} {Q : KD} {X : KX} : sNe [.lst [], .lst []] cs Q X = Q (.bl false) cs := by
  have := sNe_e (x := .lst []) (y := .lst []) (cs := cs) (Q := Q) (X := X)
  rw [this]
  simp [deref, pur, purs, eqD, eqDs]
theorem ok_pair : okFn 4 c_check_pair spPair := by
  rintro ds cs Q X ⟨p, q, rfl, h, hl, hQ⟩
  show wpS (.seq c_check_pair_1 (.seq c_check_pair_2 c_check_pair_3)) [some (fD p), some (fD q), none, none] cs _
  simp only [wpS]
  rw [c_check_pair_1]
  simp [len_fD, h.len]
  rw [c_check_pair_2]
  simp only [wpS, wpE, wpEs, bindP, getV, List.set, len_fD]
  refine ⟨by omega, by omega, ?_⟩
  rw [rgD_nI]
  refine comp_filter (fun _ => false) _ trivial (fun j hj => ⟨fun K hK => ?_, fun K hK => hK⟩) (by simp; omega) ?_
  · have hj := List.mem_range.mp hj
    have hr := h.rts j hj
    simp [wipe, sIx_e, getQ_fD, ix_par hj, ix_par (show j < q.length by rw [h.len]; exact hj), hr]
    exact hK
  rw [if_neg Bool.false_ne_true, show (List.range p.length).filter (fun _ => false) = [] from List.filter_eq_nil_iff.mpr (by simp)]
  rw [c_check_pair_3]
  simp [lim, nI, sNe_nil]
  exact hQ
def spChg : Spec := fun ds cs Q _ => ∃ p q, ds = [fD p, fD q] ∧ Pair p q ∧ p.length ≤ 1000 ∧ Q (lD (chg p q)) cs
theorem spChg_e {p q : List Nat} {cs : Cs} {Q : KD} {X : KX} (h : Pair p q) (hl : p.length ≤ 1000) (hQ : Q (lD (chg p q)) cs) : spChg [fD p, fD q] cs Q X := ⟨_, _, rfl, h, hl, hQ⟩
theorem ok_chg : okFn 3 (c_changed_nodes spPair) spChg := by
  rintro ds cs Q X ⟨p, q, rfl, h, hl, hQ⟩
  show wpS (.seq (c_changed_nodes_1 spPair) (c_changed_nodes_2 spPair)) [some (fD p), some (fD q), none] cs _
  simp only [wpS]
  rw [c_changed_nodes_1]
  simp only [wpS, wpE, wpEs, getV]
  refine spPair_e h hl ?_
  rw [c_changed_nodes_2]
  simp only [wpS, wpE, wpEs, getV, len_fD]
  refine ⟨by omega, by omega, ?_⟩
  rw [rgD_nI]
  refine comp_filter (fun i => !decide (par p i = par q i)) _ trivial (fun j hj => ⟨fun K hK => ?_, fun K hK => hK⟩) (by simp; omega) hQ
  have hj := List.mem_range.mp hj
  simp [wipe, sIx_e, getQ_fD, ix_par hj, ix_par (show j < q.length by rw [h.len]; exact hj)]
  simpa using hK
/-- nothing bars the way -/
def Free (p q : List Nat) (i : Nat) : Prop := ∀ j ∈ (path p i).dropLast, par q j = root p i
def spBar : Spec := fun ds cs Q _ => ∃ p q i, ds = [fD p, fD q, .int (i : Nat)] ∧ FoOk p ∧ q.length = p.length ∧ i < p.length ∧ p.length ≤ 1000 ∧ Free p q i ∧ Q .non cs
theorem spBar_e {p q : List Nat} {i : Nat} {cs : Cs} {Q : KD} {X : KX} (h : FoOk p) (hq : q.length = p.length) (hi : i < p.length) (hl : p.length ≤ 1000) (hf : Free p q i) (hQ : Q .non cs) : spBar [fD p, fD q, .int (i : Nat)] cs Q X := ⟨_, _, _, rfl, h, hq, hi, hl, hf, hQ⟩
theorem star_last {xs : List Nat} {x : Nat} : starD 2 0 (nI (xs ++ [x])) = [.lst (nI xs), .int (x : Nat)] := by
  unfold starD
  simp [nI]
theorem ok_bar : okFn 7 (c_bar_of spPath) spBar := by
  rintro ds cs Q X ⟨p, q, i, rfl, h, hq, hi, hl, hf, hQ⟩
  show wpS (.seq (c_bar_of_1 spPath) (.seq (c_bar_of_2 spPath) (c_bar_of_3 spPath))) [some (fD p), some (fD q), some (.int (i : Nat)), none, none, none, none] cs _
  simp only [wpS]
  rw [c_bar_of_1]
  simp only [wpS, wpE, wpEs, getV]
  refine spPath_e h hi hl ?_
  show 0 < 2 ∧ 2 ≤ (nI (path p i)).length + 1 ∧ _
  have l0 : 0 < (path p i).length := List.length_pos_iff.mpr (path_ne i)
  refine ⟨by decide, by rw [nI_len]; omega, ?_⟩
  rw [path_split, star_last]
  simp only [bindP, List.set]
  rw [c_bar_of_2]
  simp only [wpS, wpE, wpEs, bindP, getV, List.set]
  refine iSeq_e (.inl rfl) (comp_filter (fun _ => false) _ trivial (fun j hj => ⟨fun K hK => ?_, fun K hK => hK⟩) (by have := path_le h hi; rw [List.length_dropLast]; omega) ?_)
  · have hjp := ((mem_drop h hi).mp hj).1
    have hjl := path_lt h i hi j hjp
    simp [wipe, sIx_e, getQ_fD, ix_par (show j < q.length by rw [hq]; exact hjl), hf j hj]
    exact hK
  rw [if_neg Bool.false_ne_true, show ((path p i).dropLast).filter (fun _ => false) = [] from List.filter_eq_nil_iff.mpr (by simp)]
  rw [c_bar_of_3]
  simp [lim, nI, sNe_nil]
  exact hQ
structure Way (p q : List Nat) : Prop extends Pair p q where
  fo : FoOk p
  free : ∀ i ∈ chg p q, Free p q i
def spFBar : Spec := fun ds cs Q _ => ∃ p q, ds = [fD p, fD q] ∧ Way p q ∧ p.length ≤ 1000 ∧ Q .non cs
theorem spFBar_e {p q : List Nat} {cs : Cs} {Q : KD} {X : KX} (h : Way p q) (hl : p.length ≤ 1000) (hQ : Q .non cs) : spFBar [fD p, fD q] cs Q X := ⟨_, _, rfl, h, hl, hQ⟩
theorem chg_lt {p q : List Nat} {i : Nat} (h : i ∈ chg p q) : i < p.length := List.mem_range.mp (List.mem_filter.mp h).1
theorem chg_len {p q : List Nat} : (chg p q).length ≤ p.length := Nat.le_trans (List.length_filter_le _ _) (by simp)
theorem ok_fbar : okFn 5 (c_find_bar spBar spChg) spFBar := by
  rintro ds cs Q X ⟨p, q, rfl, h, hl, hQ⟩
  show wpS (.seq (c_find_bar_1 spBar spChg) (.seq (c_find_bar_2 spBar spChg) (c_find_bar_3 spBar spChg))) [some (fD p), some (fD q), none, none, none] cs _
  simp only [wpS]
  rw [c_find_bar_1]
  simp only [wpS, wpE, wpEs, bindP, getV, List.set]
  refine spChg_e h.toPair hl ?_
  have cl := chg_len (p := p) (q := q)
  refine iSeq_e (.inl rfl) (compL_map (fun d => .tup [d, .non]) trivial _ _ (fun d hd => ?_) (show _ ≤ 16777216 by simp; omega) ?_)
  · obtain ⟨i, hi, rfl⟩ := List.mem_map.mp hd
    refine ⟨_, rfl, fun K h => h, fun K hK => ?_⟩
    simp only [wipe, List.set, getV]
    refine spBar_e h.fo h.len (chg_lt hi) hl (h.free i hi) ?_
    exact ⟨show 2 ≤ 16777216 by decide, hK⟩
  rw [if_neg Bool.false_ne_true, List.nil_append, c_find_bar_2]
  simp only [wpS, wpE, wpEs, bindP, getV, List.set]
  refine iSeq_e (.inl rfl) (compL_pure (fun _ => false) id trivial _ _ (fun d hd => ?_) (show _ ≤ 16777216 by simp; omega) ?_)
  · obtain ⟨e, _, rfl⟩ := List.mem_map.mp hd
    refine ⟨_, rfl, fun K hK => ?_, fun z => (Bool.false_ne_true z).elim⟩
    simp [wipe, isN]
    exact hK
  rw [if_neg Bool.false_ne_true, show (List.map (fun d => D.tup [d, .non]) (nI (chg p q))).filter (fun _ => false) = [] from List.filter_eq_nil_iff.mpr (by simp)]
  rw [c_find_bar_3]
  simp [lim, sNe_nil]
  exact hQ
def ned (p q : List Nat) : List Nat := (chg p q).filter fun i => decide (((sub p i).filter fun j => decide (j ∈ chg p q)).length = 1)
def spNed : Spec := fun ds cs Q _ => ∃ p q, ds = [fD p, fD q] ∧ Way p q ∧ p.length ≤ 1000 ∧ Q (lD (ned p q)) cs
theorem spNed_e {p q : List Nat} {cs : Cs} {Q : KD} {X : KX} (h : Way p q) (hl : p.length ≤ 1000) (hQ : Q (lD (ned p q)) cs) : spNed [fD p, fD q] cs Q X := ⟨_, _, rfl, h, hl, hQ⟩
theorem ok_ned : okFn 6 (c_needed_finds spChg spFBar spSub) spNed := by
  rintro ds cs Q X ⟨p, q, rfl, h, hl, hQ⟩
  show wpS (.seq (c_needed_finds_1 spChg spFBar spSub) (.seq (c_needed_finds_2 spChg spFBar spSub) (.seq (c_needed_finds_3 spChg spFBar spSub) (c_needed_finds_4 spChg spFBar spSub)))) [some (fD p), some (fD q), none, none, none, none] cs _
  simp only [wpS]
  rw [c_needed_finds_1]
  simp only [wpS, wpE, wpEs, bindP, getV, List.set]
  refine spChg_e h.toPair hl ?_
  rw [c_needed_finds_2]
  simp only [wpS, wpE, wpEs, bindP, getV, List.set]
  refine spFBar_e h hl ?_
  rw [c_needed_finds_3]
  simp [isN]
  rw [c_needed_finds_4]
  have cl := chg_len (p := p) (q := q)
  simp only [wpS, wpE, wpEs, getV]
  refine iSeq_e (.inl rfl) (comp_filter (fun i => decide (((sub p i).filter fun j => decide (j ∈ chg p q)).length = 1)) _ trivial (fun j hj => ⟨fun K hK => ?_, fun K hK => hK⟩) (by omega) hQ)
  have hj := chg_lt hj
  simp only [wipe, List.set, getV]
  refine spSub_e h.fo hj hl ?_
  have sl : (sub p j).length ≤ p.length := Nat.le_trans (List.length_filter_le _ _) (by simp)
  refine iSeq_e (.inl rfl) (comp_filter (fun k => decide (k ∈ chg p q)) _ trivial (fun k hk => ⟨fun K' hK' => ?_, fun K' hK' => hK'⟩) (by omega) ?_)
  · simp [sIn_e, getQ_lD, flat, inD_nI]
    exact hK'
  rw [if_neg Bool.false_ne_true]
  rw [show sLen [.lst (nI ((sub p j).filter fun k => decide (k ∈ chg p q)))] = sLen [lD ((sub p j).filter fun k => decide (k ∈ chg p q))] from rfl, len_lD, sEq_i]
  rw [show (((((sub p j).filter fun k => decide (k ∈ chg p q)).length : Nat) : Int) == 1) = decide (((sub p j).filter fun k => decide (k ∈ chg p q)).length = 1) by
    rw [show (1 : Int) = ((1 : Nat) : Int) from rfl, beqN]]
  exact hK
def spWay : Spec := fun ds cs Q _ => ∃ p q, ds = [fD p, fD q] ∧ Way p q ∧ p.length ≤ 60 ∧ Q (.int (tot p (ned p q) : Nat)) cs
theorem spWay_e {p q : List Nat} {cs : Cs} {Q : KD} {X : KX} (h : Way p q) (hl : p.length ≤ 60) (hQ : Q (.int (tot p (ned p q) : Nat)) cs) : spWay [fD p, fD q] cs Q X := ⟨_, _, rfl, h, hl, hQ⟩
theorem ned_chg {p q : List Nat} {i : Nat} (h : i ∈ ned p q) : i ∈ chg p q := (List.mem_filter.mp h).1
theorem ned_len {p q : List Nat} : (ned p q).length ≤ p.length := Nat.le_trans (List.length_filter_le _ _) chg_len
theorem ok_way : okFn 2 (c_way_cost spNed spTot) spWay := by
  rintro ds cs Q X ⟨p, q, rfl, h, hl, hQ⟩
  show wpS (c_way_cost_1 spNed spTot) [some (fD p), some (fD q)] cs _
  rw [c_way_cost_1]
  simp only [wpS, wpE, wpEs, getV]
  refine spNed_e h (by omega) ?_
  have nl := ned_len (p := p) (q := q)
  exact spTot_e (.inl rfl) h.fo (fun i hi => chg_lt (ned_chg hi)) hl (by omega) hQ
end G

/-! GWayM: the ways to forests that finds make. Plain mathematics. -/
namespace G
section
variable {p : List Nat} {M : Nat → Bool}
theorem root_ne (h : FoOk p) {i : Nat} (hi : i < p.length) (e : par p i ≠ i) : root p i ≠ i := fun z => e (by have := (root_lt h i hi).2; rw [z] at this; exact this)
theorem flt_pair (h : FoOk p) (hM : MOk p M) : Pair p (flt p M) := by
  refine ⟨flt_len, fun i hi => ?_⟩
  rw [flt_par hi]
  cases e : M i with
  | true =>
    have ne := hM.nr i hi e
    exact ⟨fun z => absurd z ne, fun z => absurd z (root_ne h hi ne)⟩
  | false => exact Iff.rfl
theorem deep_iff {i : Nat} : deep p i = true ↔ par p i ≠ i ∧ par p (par p i) ≠ par p i := by
  unfold deep
  rw [Bool.and_eq_true, decide_eq_true_iff, decide_eq_true_iff]
theorem chg_iff (h : FoOk p) (hM : MOk p M) {i : Nat} : i ∈ chg p (flt p M) ↔ i < p.length ∧ M i = true ∧ deep p i = true := by
  unfold chg
  rw [List.mem_filter, List.mem_range]
  constructor
  · rintro ⟨hi, e⟩
    rw [flt_par hi] at e
    cases m : M i with
    | false =>
      rw [m] at e
      simp at e
    | true =>
      rw [m] at e
      have ne := hM.nr i hi m
      refine ⟨hi, rfl, deep_iff.mpr ⟨ne, fun z => ?_⟩⟩
      have : root p i = par p i := by rw [root_step h hi ne, root_root h (par_lt h hi) z]
      simp [this] at e
  · rintro ⟨hi, m, d⟩
    refine ⟨hi, ?_⟩
    have d := deep_iff.mp d
    rw [flt_par hi, m]
    have : par p i ≠ root p i := fun z => d.2 (by rw [z]; exact (root_lt h i hi).2)
    simp [this]
theorem flt_way (h : FoOk p) (hM : MOk p M) : Way p (flt p M) := by
  refine ⟨flt_pair h hM, h, fun i hi j hj => ?_⟩
  obtain ⟨hl, m, d⟩ := (chg_iff h hM).mp hi
  obtain ⟨hj1, hj2⟩ := (mem_drop h hl).mp hj
  rw [flt_par (path_lt h i hl j hj1), up_all h hM i hl m j hj1 hj2, root_in h i hl j hj1]
  rfl
theorem one_iff : ∀ {l : List Nat} {i : Nat}, l.Nodup → i ∈ l → (l.length = 1 ↔ ∀ j ∈ l, j = i)
  | [], _, _, h => by cases h
  | [x], i, _, h => by
    have : i = x := by simpa using h
    simp [this]
  | x :: y :: l, i, n, h => by
    have n := List.nodup_cons.mp n
    constructor
    · intro z
      simp at z
    · intro z
      have a := z x List.mem_cons_self
      have b := z y (List.mem_cons_of_mem _ List.mem_cons_self)
      exact absurd (show x ∈ y :: l by rw [a, ← b]; exact List.mem_cons_self) n.1
theorem ned_iff (h : FoOk p) {q : List Nat} {i : Nat} : i ∈ ned p q ↔ i ∈ chg p q ∧ ∀ j ∈ chg p q, i ∈ path p j → j = i := by
  unfold ned
  rw [List.mem_filter]
  refine and_congr_right fun hc => ?_
  have hi := chg_lt hc
  rw [decide_eq_true_iff]
  have nd : ((sub p i).filter fun j => decide (j ∈ chg p q)).Nodup := (List.nodup_range.filter _).filter _
  have mem : ∀ j, j ∈ ((sub p i).filter fun j => decide (j ∈ chg p q)) ↔ j ∈ chg p q ∧ i ∈ path p j := fun j => by
    unfold sub
    rw [List.mem_filter, List.mem_filter, List.mem_range, decide_eq_true_iff, decide_eq_true_iff]
    exact ⟨fun ⟨⟨_, a⟩, b⟩ => ⟨b, a⟩, fun ⟨b, a⟩ => ⟨⟨chg_lt b, a⟩, b⟩⟩
  rw [one_iff nd ((mem i).mpr ⟨hc, mem_self h hi⟩)]
  exact ⟨fun z j a b => z j ((mem j).mpr ⟨a, b⟩), fun z j a => z j ((mem j).mp a).1 ((mem j).mp a).2⟩
theorem path_trans (h : FoOk p) {i j : Nat} (hj : i ∈ path p j) : ∀ t, t < p.length → j ∈ path p t → i ∈ path p t := by
  refine up_ind h (fun t ht e z => ?_) fun t ht e ih z => ?_
  · rw [path_root h ht e] at z
    rw [List.mem_singleton.mp z] at hj
    exact hj
  · rw [path_step h ht e] at z
    rcases List.mem_cons.mp z with z | z
    · rw [z] at hj
      exact hj
    · rw [path_step h ht e]
      exact List.mem_cons_of_mem _ (ih z)
/-- a lowest changed node below -/
theorem low_ex (h : FoOk p) {q : List Nat} : ∀ i ∈ chg p q, ∃ t ∈ ned p q, i ∈ path p t := by
  obtain ⟨r, hr⟩ := h
  have h : FoOk p := ⟨r, hr⟩
  have go : ∀ n i, i ∈ chg p q → p.length - r i ≤ n → ∃ t ∈ ned p q, i ∈ path p t := by
    intro n
    induction n with
    | zero =>
      intro i hi hn
      have := (hr i (chg_lt hi)).2.1
      omega
    | succ n ih =>
      intro i hi hn
      by_cases e : i ∈ ned p q
      · exact ⟨i, e, mem_self h (chg_lt hi)⟩
      · have : ∃ j, j ∈ chg p q ∧ i ∈ path p j ∧ j ≠ i := by
          refine Classical.byContradiction fun z => e ((ned_iff h).mpr ⟨hi, fun j a b => Classical.byContradiction fun c => z ⟨j, a, b, c⟩⟩)
        obtain ⟨j, a, b, c⟩ := this
        have rk : r i < r j := by
          rcases rank_path hr j (chg_lt a) i b with z | z
          · exact absurd z.symm c
          · exact z
        have := (hr j (chg_lt a)).2.1
        obtain ⟨t, ht, hjt⟩ := ih j a (by omega)
        exact ⟨t, ht, path_trans h b t (chg_lt (ned_chg ht)) hjt⟩
  exact fun i hi => go _ i hi (Nat.le_refl _)
theorem mk_iff {xs : List Nat} {j : Nat} : mk p xs j = true ↔ ∃ i ∈ xs, j ∈ path p i ∧ j ≠ root p i := by
  unfold mk
  rw [List.any_eq_true]
  constructor
  · rintro ⟨i, a, b⟩
    have b := Bool.and_eq_true_iff.mp b
    exact ⟨i, a, of_decide_eq_true b.1, of_decide_eq_true b.2⟩
  · rintro ⟨i, a, b, c⟩
    exact ⟨i, a, by rw [decide_eq_true b, decide_eq_true c]; rfl⟩
theorem mk_ok (h : FoOk p) {xs : List Nat} (hx : ∀ i ∈ xs, i < p.length) : MOk p (mk p xs) := by
  have := mores_ok h xs (fun _ => false) no_ok hx
  have e : mores p (fun _ => false) xs = mk p xs := funext fun j => by rw [mores_eq]; rfl
  rw [e] at this
  exact this
theorem deep_root (h : FoOk p) {i : Nat} (hi : i < p.length) (d : deep p i = true) (j : Nat) (hj : j < p.length) : i ≠ root p j := fun z => (deep_iff.mp d).1 (by rw [z]; exact (root_lt h j hj).2)
theorem ned_sub (h : FoOk p) {xs : List Nat} (hx : ∀ i ∈ xs, i < p.length) {i : Nat} (hi : i ∈ ned p (flt p (mk p xs))) : i ∈ xs := by
  have hM := mk_ok h hx
  obtain ⟨hc, lo⟩ := (ned_iff h).mp hi
  obtain ⟨hl, m, d⟩ := (chg_iff h hM).mp hc
  obtain ⟨x, xm, a, b⟩ := mk_iff.mp m
  have xl := hx x xm
  have nr : par p x ≠ x := fun e => by
    rw [path_root h xl e] at a
    rw [root_root h xl e] at b
    exact b (List.mem_singleton.mp a)
  have mx : mk p xs x = true := mk_iff.mpr ⟨x, xm, mem_self h xl, (root_ne h xl nr).symm⟩
  by_cases e : x = i
  · rw [← e]
    exact xm
  · have dx : deep p x = true := by
      refine deep_iff.mpr ⟨nr, fun z => ?_⟩
      have hp := par_lt h xl
      rw [path_step h xl nr, path_root h hp z] at a
      rw [root_step h xl nr, root_root h hp z] at b
      rcases List.mem_cons.mp a with a | a
      · exact e a.symm
      · exact b (List.mem_singleton.mp a)
    have := lo x ((chg_iff h hM).mpr ⟨xl, mx, dx⟩) a
    exact absurd this e
/-- the needed nodes are enough -/
theorem ned_flt (h : FoOk p) (hM : MOk p M) {ys : List Nat} (hy : ∀ i, i ∈ ys ↔ i ∈ ned p (flt p M)) : flt p (mk p ys) = flt p M := by
  refine ext_par (by rw [flt_len, flt_len]) fun i hi => ?_
  rw [flt_len] at hi
  rw [flt_par hi, flt_par hi]
  cases m : M i with
  | true =>
    cases d : deep p i with
    | true =>
      obtain ⟨t, ht, it⟩ := low_ex h i ((chg_iff h hM).mpr ⟨hi, m, d⟩)
      have tl := chg_lt (ned_chg ht)
      rw [mk_iff.mpr ⟨t, (hy t).mpr ht, it, deep_root h hi d t tl⟩]
    | false =>
      have nr := hM.nr i hi m
      have rt : par p (par p i) = par p i := Classical.byContradiction fun z => by
        rw [deep_iff.mpr ⟨nr, z⟩] at d
        cases d
      have : root p i = par p i := by rw [root_step h hi nr, root_root h (par_lt h hi) rt]
      rw [this]
      simp
  | false =>
    cases k : mk p ys i with
    | false => rfl
    | true =>
      obtain ⟨t, ht, it, ne⟩ := mk_iff.mp k
      have hc := ned_chg ((hy t).mp ht)
      obtain ⟨tl, mt, _⟩ := (chg_iff h hM).mp hc
      rw [up_all h hM t tl mt i it ne] at m
      cases m
end
/-! ### all but one of the needed nodes -/
section
variable {p xs : List Nat} {t : Nat} {rest : List Nat}
theorem rest_lt (hr : ∀ i, i ∈ rest ↔ i ∈ ned p (flt p (mk p xs)) ∧ i ≠ t) : ∀ i ∈ rest, i < p.length := fun i hi => chg_lt (ned_chg ((hr i).mp hi).1)
theorem rest_t (h : FoOk p) (ht : t ∈ ned p (flt p (mk p xs))) (hr : ∀ i, i ∈ rest ↔ i ∈ ned p (flt p (mk p xs)) ∧ i ≠ t) : mk p rest t = false := by
  cases k : mk p rest t with
  | false => rfl
  | true =>
    obtain ⟨x, hx, a, _⟩ := mk_iff.mp k
    obtain ⟨hx1, hx2⟩ := (hr x).mp hx
    exact absurd (((ned_iff h).mp ht).2 x (ned_chg hx1) a) hx2
theorem rest_ne (h : FoOk p) (hx : ∀ i ∈ xs, i < p.length) (ht : t ∈ ned p (flt p (mk p xs))) (hr : ∀ i, i ∈ rest ↔ i ∈ ned p (flt p (mk p xs)) ∧ i ≠ t) : flt p (mk p rest) ≠ flt p (mk p xs) := fun z => by
  have tl := chg_lt (ned_chg ht)
  obtain ⟨_, m, d⟩ := (chg_iff h (mk_ok h hx)).mp (ned_chg ht)
  have e := congrArg (fun q => par q t) z
  have e : par (flt p (mk p rest)) t = par (flt p (mk p xs)) t := e
  rw [flt_par tl, flt_par tl, rest_t h ht hr, m] at e
  have e : par p t = root p t := e
  exact (deep_iff.mp d).2 (by rw [e]; exact (root_lt h t tl).2)
theorem rest_in (h : FoOk p) (hx : ∀ i ∈ xs, i < p.length) (hr : ∀ i, i ∈ rest ↔ i ∈ ned p (flt p (mk p xs)) ∧ i ≠ t) {i : Nat} (m : mk p rest i = true) : mk p xs i = true := by
  obtain ⟨u, hu, a, b⟩ := mk_iff.mp m
  obtain ⟨ul, mu, _⟩ := (chg_iff h (mk_ok h hx)).mp (ned_chg ((hr u).mp hu).1)
  exact up_all h (mk_ok h hx) u ul mu i a b
theorem flt_flt (h : FoOk p) {M N : Nat → Bool} (hN : MOk p N) (sub : ∀ i, N i = true → M i = true) : flt (flt p N) M = flt p M := by
  refine ext_par (by rw [flt_len, flt_len, flt_len]) fun i hi => ?_
  rw [flt_len, flt_len] at hi
  rw [flt_par (by rw [flt_len]; exact hi), flt_par hi, flt_root h hN i hi, flt_par hi]
  cases m : M i with
  | true => rfl
  | false =>
    have : N i = false := by
      cases n : N i with
      | false => rfl
      | true => rw [sub i n] at m; cases m
    rw [this]
    rfl
theorem flt_mok (h : FoOk p) {M N : Nat → Bool} (hM : MOk p M) (hN : MOk p N) : MOk (flt p N) M := by
  have pr := flt_pair h hN
  refine ⟨fun i hi m z => ?_, fun i hi m => ?_⟩
  · rw [flt_len] at hi
    exact hM.nr i hi m ((pr.rts i hi).mpr z)
  · rw [flt_len] at hi
    have hp := par_lt h hi
    rw [flt_par hi]
    cases n : N i with
    | true =>
      right
      have rl := root_lt h i hi
      exact (pr.rts _ rl.1).mp rl.2
    | false =>
      rcases hM.up i hi m with a | a
      · exact .inl a
      · exact .inr ((pr.rts _ hp).mp a)
theorem deep_flt (h : FoOk p) {N : Nat → Bool} (hN : MOk p N) {i : Nat} (hi : i < p.length) : deep (flt p N) i = true ↔ deep p i = true ∧ N i = false := by
  have pr := flt_pair h hN
  have hp := par_lt h hi
  rw [deep_iff, deep_iff]
  cases n : N i with
  | true =>
    have e : par (flt p N) i = root p i := by rw [flt_par hi, n]; rfl
    rw [e]
    have rl := root_lt h i hi
    constructor
    · rintro ⟨_, b⟩
      exact absurd ((pr.rts _ rl.1).mp rl.2) b
    · rintro ⟨_, b⟩
      cases b
  | false =>
    have e : par (flt p N) i = par p i := by rw [flt_par hi, n]; rfl
    rw [e]
    exact ⟨fun ⟨a, b⟩ => ⟨⟨a, fun z => b ((pr.rts _ hp).mp z)⟩, rfl⟩, fun ⟨⟨a, b⟩, _⟩ => ⟨a, fun z => b ((pr.rts _ hp).mpr z)⟩⟩
theorem rest_ned (h : FoOk p) (hx : ∀ i ∈ xs, i < p.length) (ht : t ∈ ned p (flt p (mk p xs))) (hr : ∀ i, i ∈ rest ↔ i ∈ ned p (flt p (mk p xs)) ∧ i ≠ t) :
    Way (flt p (mk p rest)) (flt p (mk p xs)) ∧ ned (flt p (mk p rest)) (flt p (mk p xs)) = [t] := by
  have hM := mk_ok h hx
  have hN := mk_ok h (rest_lt hr)
  have e := flt_flt h hN (M := mk p xs) fun i m => rest_in h hx hr m
  have hM2 := flt_mok h hM hN
  have h2 := flt_fo h hN
  rw [← e]
  refine ⟨flt_way h2 hM2, ?_⟩
  have cg : ∀ i, i ∈ chg (flt p (mk p rest)) (flt (flt p (mk p rest)) (mk p xs)) ↔ i ∈ chg p (flt p (mk p xs)) ∧ mk p rest i = false := fun i => by
    rw [chg_iff h2 hM2, chg_iff h hM, flt_len]
    constructor
    · rintro ⟨a, b, c⟩
      have c := (deep_flt h hN a).mp c
      exact ⟨⟨a, b, c.1⟩, c.2⟩
    · rintro ⟨⟨a, b, c⟩, d⟩
      exact ⟨a, b, (deep_flt h hN a).mpr ⟨c, d⟩⟩
  have tl := chg_lt (ned_chg ht)
  have tc := (cg t).mpr ⟨ned_chg ht, rest_t h ht hr⟩
  refine sorted_ext ?_ (by simp) fun i => ?_
  · unfold ned chg
    exact (range_sorted).filter _
  · rw [List.mem_singleton, ned_iff h2]
    constructor
    · rintro ⟨ic, lo⟩
      obtain ⟨ic1, ic2⟩ := (cg i).mp ic
      obtain ⟨il, im, id⟩ := (chg_iff h hM).mp ic1
      obtain ⟨u, hu, iu⟩ := low_ex h i ic1
      have ul := chg_lt (ned_chg hu)
      have ut : u = t := Classical.byContradiction fun z => by
        rw [mk_iff.mpr ⟨u, (hr u).mpr ⟨hu, z⟩, iu, deep_root h il id u ul⟩] at ic2
        cases ic2
      rw [ut] at iu
      rcases flt_path_or h hN t tl i iu with z | z
      · exact (lo t tc z).symm
      · rw [ic2] at z
        cases z
    · intro z
      subst z
      refine ⟨tc, fun j hj hp => ?_⟩
      obtain ⟨jc, _⟩ := (cg j).mp hj
      exact ((ned_iff h).mp ht).2 j jc (flt_path_sub h hN j (chg_lt jc) i hp)
end
end G

/-! GAny: any; a returned cell read as a tree. -/
namespace G
open PySem PySem.Spec L2
def sAny : Spec := fun ds cs Q _ => match ds with
  | [x] => match getL x cs with
    | some xs => match asBools xs with
      | some bs => Q (.bl (bs.any id)) cs
      | none => False
    | none => False
  | _ => False
@[simp] theorem sAny_e {x : D} {cs : Cs} {Q : KD} {X : KX} : sAny [x] cs Q X = match getL x cs with
    | some xs => match asBools xs with
      | some bs => Q (.bl (bs.any id)) cs
      | none => False
    | none => False := rfl
/-- what is returned in a cell, as a tree -/
def frzS (sp : Spec) : Spec := fun ds cs Q X => sp ds cs (fun d c => ∃ n xs, d = .ref n ∧ c n = some (.lst xs) ∧ Q (.lst xs) (del c n)) X
section
variable {P : Program} {w : World} {K : PySem.W.Frag} {mg : Str → Option Value} {base : Heap} {k : Nat} {f : Addr} {fd : FuncData} {ps : List Str} {sp : Spec}
theorem fnOk_frz (F : FnOk P w K mg base (L2N.CX P w) k f fd ps (lift K mg sp)) : FnOk P w K mg base (L2N.CX P w) k f fd ps (lift K mg (frzS sp)) := by
  refine F.imp fun vs H Q E ⟨wd, F, cs, ds, PD, PX, R, r, hs, q, x⟩ => ⟨wd, F, cs, ds, _, PX, R, r, hs, fun wd' d c v H' l R' rv h => ?_, x⟩
  obtain ⟨n, xs, e, hc, hp⟩ := h
  subst e
  obtain ⟨wd2, a, le, e1, R2, rp⟩ := R'.freeze hc
  obtain ⟨a', e2, ev⟩ := rv
  rw [e1] at e2
  cases e2
  subst ev
  exact q wd2 _ _ _ H' (l.trans le) R2 rp hp
end
theorem fnOk_imp {P : Program} {w : World} {K : PySem.W.Frag} {mg : Str → Option Value} {base : Heap} {k : Nat} {f : Addr} {fd : FuncData} {ps : List Str} {sp sp' : Spec} (F : FnOk P w K mg base (L2N.CX P w) k f fd ps (lift K mg sp)) (h : ∀ ds cs Q X, sp' ds cs Q X → sp ds cs Q X) : FnOk P w K mg base (L2N.CX P w) k f fd ps (lift K mg sp') :=
  F.imp fun vs H Q E ⟨wd, F, cs, ds, PD, PX, R, r, hs, q⟩ => ⟨wd, F, cs, ds, PD, PX, R, r, h _ _ _ _ hs, q⟩
section
variable {X : Cx} {W : WX} {pos p : Pos} {a : Expr} {ca : E} {K : PySem.W.Frag}
theorem refn_any : RefN X.K (rAny X.K) sAny := by
  refine refn_one (f := fun d cs Q => match getL d cs with
    | some xs => match asBools xs with
      | some bs => Q (.bl (bs.any id)) cs
      | none => False
    | none => False) fun wd F cs H d v P Q R rv h q => ?_
  cases ex : G.getL d cs with
  | none => simp only [ex] at h
  | some xs =>
    simp only [ex] at h
    cases eb : asBools xs with
    | none => simp only [eb] at h
    | some bs =>
      simp only [eb] at h
      obtain ⟨a, ws, e2, s, r2⟩ := R.getL rv ex
      subst e2
      have := asBools_V r2 eb
      subst this
      exact ⟨a, bs, rfl, SqL.of s, q wd (.bl _) cs _ H (Wd.le.refl _) R rfl h⟩
theorem boot_anyG : bootBuiltins "any" = some (.builtin "any") := by decide +kernel
theorem j_any (hc : X.calm = true) (hg : Gl X "any") (hm : X.mg "any" = none) (ha : JE X W a ca) (h1 : starEach [a] X.env = (false, eval a X.env) :: starEach [] X.env := by rfl) : JE X W (.Call (.Name "any" p) [a] [] pos) (.app sAny (.cons ca .nil)) :=
  j_bltn (cr_any hc) refn_any hg hm boot_anyG (ja_cons ha ja_nil h1) (he := h1) (hpl := rfl)
end
end G

/-! GWayG: bars of ways, told for all pairs; needed nodes one by one; ways counted. -/
namespace G
open PySem (Str)
theorem eqDs_nI : ∀ {p q : List Nat}, eqDs (nI p) (nI q) = decide (p = q)
  | [], [] => rfl
  | [], _ :: _ => rfl
  | _ :: _, [] => rfl
  | x :: p, y :: q => by
    show (eqD (.int (x : Nat)) (.int (y : Nat)) && eqDs (nI p) (nI q)) = _
    rw [eqDs_nI]
    simp only [eqD]
    rw [beqN]
    by_cases a : x = y <;> by_cases b : p = q <;> simp [a, b]
theorem sEq_fF {p q : List Nat} {cs : Cs} {Q : KD} {X : KX} (h : p.length ≤ 16777216) (k : q.length ≤ 16777216) : sEq [fD p, fD q] cs Q X = Q (.bl (decide (p = q))) cs := by
  rw [sEq_e]
  have e1 : deref cs (fD p) = fD p := rfl
  have e2 : deref cs (fD q) = fD q := rfl
  have e3 : eqD (fD p) (fD q) = decide (p = q) := eqDs_nI
  rw [e1, e2, pur_fD (k := 63) h, pur_fD (k := 63) k, e3]
  simp
theorem sNe_lL {p q : List Nat} {cs : Cs} {Q : KD} {X : KX} (h : p.length ≤ 16777216) (k : q.length ≤ 16777216) : sNe [lD p, lD q] cs Q X = Q (.bl (!decide (p = q))) cs := by
  rw [sNe_e]
  have e1 : deref cs (lD p) = lD p := rfl
  have e2 : deref cs (lD q) = lD q := rfl
  have e3 : eqD (lD p) (lD q) = decide (p = q) := eqDs_nI
  rw [e1, e2, pur_lD (k := 63) h, pur_lD (k := 63) k, e3]
  simp
theorem sNe_some {xs : List D} {cs : Cs} {Q : KD} {X : KX} (h : pur 64 (.lst xs) = true) : sNe [.lst xs, .lst []] cs Q X = Q (.bl (!xs.isEmpty)) cs := by
  rw [sNe_e]
  have e1 : deref cs (.lst xs) = .lst xs := rfl
  have e2 : deref cs (.lst []) = .lst [] := rfl
  rw [e1, e2, h]
  have e3 : eqD (.lst xs) (.lst []) = xs.isEmpty := by cases xs <;> rfl
  rw [e3]
  simp [pur, purs]
theorem cutLo_l {xs : List Nat} {i : Nat} {cs : Cs} {Q : KD} {X : KX} (hi : i ≤ xs.length) : sCutLo [lD xs, .int (i : Nat)] cs Q X = Q (lD (xs.drop i)) cs := by
  show Q (.lst (cutD (nI xs) (some (i : Nat)) none)) cs = _
  have e : cutD (nI xs) (some (i : Nat)) none = nI (xs.drop i) := by
    unfold cutD sIxAt
    have m : min i xs.length = i := by omega
    simp [nI, List.map_drop, m]
    rw [if_neg (by omega), List.take_of_length_le (by simp)]
  rw [e]
  rfl
theorem cutHi_lD {xs : List Nat} {i : Nat} {cs : Cs} {Q : KD} {X : KX} : sCutHi [lD xs, .int (i : Nat)] cs Q X = Q (lD (xs.take i)) cs := by
  show sCutHi [.lst (nI xs), .int (i : Nat)] cs Q X = _
  rw [cutHi_l]
  simp [nI, List.map_take, lD]
/-! ### bars -/
def wrong (p q : List Nat) (i : Nat) : List Nat := (path p i).dropLast.filter fun j => !decide (par q j = root p i)
def barO (p q : List Nat) (i : Nat) : Option Nat := (wrong p q i).head?
def barD (p q : List Nat) (i : Nat) : D := match barO p q i with
  | some w => .int (w : Nat)
  | none => .non
theorem barD_pur {p q : List Nat} {i k : Nat} : pur k (barD p q i) = true := by
  unfold barD
  cases barO p q i <;> cases k <;> rfl
def spBarG : Spec := fun ds cs Q _ => ∃ p q i, ds = [fD p, fD q, .int (i : Nat)] ∧ FoOk p ∧ q.length = p.length ∧ i < p.length ∧ p.length ≤ 1000 ∧ Q (barD p q i) cs
theorem spBarG_e {p q : List Nat} {i : Nat} {cs : Cs} {Q : KD} {X : KX} (h : FoOk p) (hq : q.length = p.length) (hi : i < p.length) (hl : p.length ≤ 1000) (hQ : Q (barD p q i) cs) : spBarG [fD p, fD q, .int (i : Nat)] cs Q X := ⟨_, _, _, rfl, h, hq, hi, hl, hQ⟩
theorem ok_barG : okFn 7 (c_bar_of spPath) spBarG := by
  rintro ds cs Q X ⟨p, q, i, rfl, h, hq, hi, hl, hQ⟩
  show wpS (.seq (c_bar_of_1 spPath) (.seq (c_bar_of_2 spPath) (c_bar_of_3 spPath))) [some (fD p), some (fD q), some (.int (i : Nat)), none, none, none, none] cs _
  simp only [wpS]
  rw [c_bar_of_1]
  simp only [wpS, wpE, wpEs, getV]
  refine spPath_e h hi hl ?_
  show 0 < 2 ∧ 2 ≤ (nI (path p i)).length + 1 ∧ _
  have l0 : 0 < (path p i).length := List.length_pos_iff.mpr (path_ne i)
  refine ⟨by decide, by rw [nI_len]; omega, ?_⟩
  rw [path_split, star_last]
  simp only [bindP, List.set]
  rw [c_bar_of_2]
  simp only [wpS, wpE, wpEs, bindP, getV, List.set]
  have pl := path_le h hi
  refine iSeq_e (.inl rfl) (comp_filter (fun j => !decide (par q j = root p i)) _ trivial (fun j hj => ⟨fun K hK => ?_, fun K hK => hK⟩) (by rw [List.length_dropLast]; omega) ?_)
  · have hjp := ((mem_drop h hi).mp hj).1
    have hjl := path_lt h i hi j hjp
    simp [wipe, sIx_e, getQ_fD, ix_par (show j < q.length by rw [hq]; exact hjl)]
    simpa using hK
  rw [if_neg Bool.false_ne_true]
  have wl : (wrong p q i).length ≤ 1000 := Nat.le_trans (List.length_filter_le _ _) (by rw [List.length_dropLast]; omega)
  have he : barD p q i = match wrong p q i with
    | [] => .non
    | w :: _ => .int (w : Nat) := by
    unfold barD barO
    cases wrong p q i <;> rfl
  show wpS (c_bar_of_3 spPath) [some (fD p), some (fD q), some (.int (i : Nat)), some (.lst (nI (path p i).dropLast)), some (.int (root p i : Nat)), some (lD (wrong p q i)), none] cs _
  rw [he] at hQ
  rw [c_bar_of_3]
  simp only [wpS, wpE, wpEs, getV, sList_e]
  refine ⟨Nat.zero_le _, ?_⟩
  rw [show sNe [lD (wrong p q i), .lst []] = sNe [lD (wrong p q i), lD []] from rfl, sNe_lL (by omega) (by simp)]
  cases ew : wrong p q i with
  | nil =>
    rw [ew] at hQ
    simp
    exact hQ
  | cons w r =>
    rw [ew] at hQ
    simp [getQ_lD, nI]
    exact hQ
def barred (p q : List Nat) : List Nat := (chg p q).filter fun i => (barO p q i).isSome
def fbarD (p q : List Nat) : D := match barred p q with
  | [] => .non
  | i :: _ => .tup [.int (i : Nat), barD p q i]
def spFBarG : Spec := fun ds cs Q _ => ∃ p q, ds = [fD p, fD q] ∧ FoOk p ∧ Pair p q ∧ p.length ≤ 1000 ∧ Q (fbarD p q) cs
theorem spFBarG_e {p q : List Nat} {cs : Cs} {Q : KD} {X : KX} (h : FoOk p) (hp : Pair p q) (hl : p.length ≤ 1000) (hQ : Q (fbarD p q) cs) : spFBarG [fD p, fD q] cs Q X := ⟨_, _, rfl, h, hp, hl, hQ⟩
theorem ok_fbarG : okFn 5 (c_find_bar spBarG spChg) spFBarG := by
  rintro ds cs Q X ⟨p, q, rfl, h, hp, hl, hQ⟩
  show wpS (.seq (c_find_bar_1 spBarG spChg) (.seq (c_find_bar_2 spBarG spChg) (c_find_bar_3 spBarG spChg))) [some (fD p), some (fD q), none, none, none] cs _
  simp only [wpS]
  rw [c_find_bar_1]
  simp only [wpS, wpE, wpEs, bindP, getV, List.set]
  refine spChg_e hp hl ?_
  have cl := chg_len (p := p) (q := q)
  let g : Nat → D := fun i => .tup [.int (i : Nat), barD p q i]
  refine iSeq_e (.inl rfl) (compL_map (fun d => match d with
    | .int i => g i.toNat
    | d => d) trivial _ _ (fun d hd => ?_) (show _ ≤ 16777216 by simp; omega) ?_)
  · obtain ⟨i, hi, rfl⟩ := List.mem_map.mp hd
    refine ⟨_, rfl, fun K h => h, fun K hK => ?_⟩
    simp only [wipe, List.set, getV]
    refine spBarG_e h hp.len (chg_lt hi) hl ?_
    exact ⟨show 2 ≤ 16777216 by decide, by simpa using hK⟩
  have em : (nI (chg p q)).map (fun d => match d with
      | .int i => g i.toNat
      | d => d) = (chg p q).map g := by
    unfold nI
    rw [List.map_map]
    exact List.map_congr_left fun i _ => rfl
  rw [if_neg Bool.false_ne_true, List.nil_append, em, c_find_bar_2]
  simp only [wpS, wpE, wpEs, bindP, getV, List.set]
  refine iSeq_e (.inl rfl) (compL_pure (fun d => match d with
    | .tup [_, .int _] => true
    | _ => false) id trivial _ _ (fun d hd => ?_) (show _ ≤ 16777216 by simp; omega) ?_)
  · obtain ⟨i, _, rfl⟩ := List.mem_map.mp hd
    refine ⟨_, rfl, fun K hK => ?_, fun _ K hK => hK⟩
    simp [wipe, g]
    unfold barD at hK ⊢
    cases eb : barO p q i with
    | none =>
      simp only [g, barD, eb] at hK
      simpa [isN] using hK
    | some w =>
      simp only [g, barD, eb] at hK
      simpa [isN] using hK
  have ef : ((chg p q).map g).filter (fun d => match d with
      | .tup [_, .int _] => true
      | _ => false) = (barred p q).map g := by
    unfold barred
    rw [List.filter_map]
    congr 1
    refine List.filter_congr fun i _ => ?_
    simp only [Function.comp, g, barD]
    cases barO p q i <;> rfl
  rw [if_neg Bool.false_ne_true, List.nil_append, List.map_id, ef]
  have bl : (barred p q).length ≤ 1000 := Nat.le_trans (List.length_filter_le _ _) (by omega)
  have pu : pur 64 (.lst ((barred p q).map g)) = true := by
    show (decide (((barred p q).map g).length ≤ lim) && purs 63 ((barred p q).map g)) = true
    rw [purs_of fun d hd => ?_, decide_eq_true (show _ ≤ 16777216 by simp; omega)]
    · rfl
    · obtain ⟨i, _, rfl⟩ := List.mem_map.mp hd
      show (decide (2 ≤ lim) && (pur 62 (.int (i : Nat)) && (pur 62 (barD p q i) && true))) = true
      rw [barD_pur]
      rfl
  rw [c_find_bar_3]
  simp only [wpS, wpE, wpEs, getV, sList_e]
  refine ⟨Nat.zero_le _, ?_⟩
  rw [sNe_some pu]
  unfold fbarD at hQ
  cases eb : barred p q with
  | nil =>
    rw [eb] at hQ
    simp
    exact hQ
  | cons i r =>
    rw [eb] at hQ
    simp
    exact hQ
theorem free_iff {p q : List Nat} {i : Nat} : barO p q i = none ↔ Free p q i := by
  unfold barO wrong Free
  rw [List.head?_eq_none_iff, List.filter_eq_nil_iff]
  simp
theorem way_iff {p q : List Nat} (h : FoOk p) (hp : Pair p q) : barred p q = [] ↔ Way p q := by
  unfold barred
  rw [List.filter_eq_nil_iff]
  constructor
  · intro z
    refine ⟨hp, h, fun i hi => free_iff.mp ?_⟩
    have := z i hi
    cases e : barO p q i with
    | none => rfl
    | some w => rw [e] at this; simp at this
  · intro w i hi
    rw [free_iff.mpr (w.free i hi)]
    simp
theorem fbarD_way {p q : List Nat} (w : Way p q) : fbarD p q = .non := by
  unfold fbarD
  rw [(way_iff w.fo w.toPair).mpr w]
theorem fbarD_isN {p q : List Nat} : isN (fbarD p q) = (barred p q).isEmpty := by
  unfold fbarD
  cases barred p q <;> rfl
/-! ### needed nodes one by one -/
end G

/-! GSameR: _law_same of what denotes the same tree: cells count as their lists, at any depth. -/
namespace G
open PySem (Str)
def densW (f : D → Option D) : List D → Option (List D)
  | [] => some []
  | x :: xs => match f x, densW f xs with
    | some a, some b => some (a :: b)
    | _, _ => none
/-- the tree that a value denotes, not deeper -/
def den (cs : Cs) : Nat → D → Option D
  | _, .non => some .non
  | _, .bl b => some (.bl b)
  | _, .int i => some (.int i)
  | _, .str s => if strOk s then some (.str s) else none
  | k + 1, .lst xs => if xs.length ≤ lim then (densW (den cs k) xs).map .lst else none
  | k + 1, .tup xs => if xs.length ≤ lim then (densW (den cs k) xs).map .tup else none
  | k + 1, .ref n => match cs n with
    | some (.lst xs) => if xs.length ≤ lim then (densW (den cs k) xs).map .lst else none
    | _ => none
  | _, _ => none
def spSR : Nat → Spec
  | 0 => fun _ _ _ _ => False
  | k + 1 => fun ds cs Q _ => ∃ x y t, ds = [x, y] ∧ den cs k x = some t ∧ den cs k y = some t ∧ Q (.bl true) cs
theorem densW_len {f : D → Option D} : ∀ {xs ts : List D}, densW f xs = some ts → xs.length = ts.length
  | [], ts, h => by
    cases h
    rfl
  | x :: xs, ts, h => by
    unfold densW at h
    split at h
    · rename_i a b e1 e2
      cases h
      simp [densW_len e2]
    · cases h
theorem densW_zip {f : D → Option D} : ∀ {xs ys ts : List D}, densW f xs = some ts → densW f ys = some ts → ∀ d ∈ zipD xs ys, ∃ a b t, d = .tup [a, b] ∧ f a = some t ∧ f b = some t
  | [], _, _, _, _, d, hd => by cases hd
  | x :: xs, [], _, _, _, d, hd => by cases hd
  | x :: xs, y :: ys, ts, h, k, d, hd => by
    unfold densW at h k
    split at h
    · rename_i a b e1 e2
      cases h
      split at k
      · rename_i a2 b2 e3 e4
        cases k
        rcases List.mem_cons.mp (show d ∈ D.tup [x, y] :: zipD xs ys from hd) with z | z
        · exact ⟨x, y, a, z, e1, e3⟩
        · exact densW_zip e2 e4 d z
      · cases k
    · cases h
theorem zipD_len2 : ∀ {xs ys : List D}, xs.length = ys.length → (zipD xs ys).length = xs.length
  | [], [], _ => rfl
  | x :: xs, y :: ys, h => by
    show (zipD xs ys).length + 1 = _
    rw [zipD_len2 (by simpa using h)]
    rfl
/-- a list, or a cell with it -/
def LstAt (cs : Cs) (x : D) (xs : List D) : Prop := x = .lst xs ∨ ∃ n, x = .ref n ∧ cs n = some (.lst xs)
theorem den_lst {cs : Cs} {k : Nat} {x : D} {ts : List D} (h : den cs k x = some (.lst ts)) : ∃ k' xs, k = k' + 1 ∧ LstAt cs x xs ∧ xs.length ≤ lim ∧ densW (den cs k') xs = some ts := by
  cases k with
  | zero =>
    cases x with
    | str s =>
      simp only [den] at h
      split at h <;> cases h
    | _ => simp [den] at h
  | succ k =>
    cases x with
    | lst xs =>
      simp only [den] at h
      split at h
      · rename_i hl
        cases e : densW (den cs k) xs with
        | none =>
          rw [e] at h
          cases h
        | some ys =>
          rw [e] at h
          cases h
          exact ⟨k, xs, rfl, .inl rfl, hl, e⟩
      · cases h
    | ref n =>
      simp only [den] at h
      split at h
      · rename_i xs hc
        split at h
        · rename_i hl
          cases e : densW (den cs k) xs with
          | none =>
            rw [e] at h
            cases h
          | some ys =>
            rw [e] at h
            cases h
            exact ⟨k, xs, rfl, .inr ⟨n, rfl, hc⟩, hl, e⟩
        · cases h
      · cases h
    | tup xs =>
      simp only [den] at h
      split at h
      · cases e : densW (den cs k) xs with
        | none => rw [e] at h; cases h
        | some ys => rw [e] at h; cases h
      · cases h
    | str s =>
      simp only [den] at h
      split at h <;> cases h
    | _ => simp [den] at h
theorem den_tup {cs : Cs} {k : Nat} {x : D} {ts : List D} (h : den cs k x = some (.tup ts)) : ∃ k' xs, k = k' + 1 ∧ x = .tup xs ∧ xs.length ≤ lim ∧ densW (den cs k') xs = some ts := by
  cases k with
  | zero =>
    cases x with
    | str s =>
      simp only [den] at h
      split at h <;> cases h
    | _ => simp [den] at h
  | succ k =>
    cases x with
    | tup xs =>
      simp only [den] at h
      split at h
      · rename_i hl
        cases e : densW (den cs k) xs with
        | none =>
          rw [e] at h
          cases h
        | some ys =>
          rw [e] at h
          cases h
          exact ⟨k, xs, rfl, rfl, hl, e⟩
      · cases h
    | ref n =>
      simp only [den] at h
      split at h
      · split at h
        · rename_i xs _ _
          cases e : densW (den cs k) xs with
          | none => rw [e] at h; cases h
          | some ys => rw [e] at h; cases h
        · cases h
      · cases h
    | lst xs =>
      simp only [den] at h
      split at h
      · cases e : densW (den cs k) xs with
        | none => rw [e] at h; cases h
        | some ys => rw [e] at h; cases h
      · cases h
    | str s =>
      simp only [den] at h
      split at h <;> cases h
    | _ => simp [den] at h
/-- what denotes a plain thing is it -/
theorem den_flat {cs : Cs} {k : Nat} {x t : D} (h : den cs k x = some t) (hf : flat t = true) : x = t ∧ (∀ s, t = .str s → strOk s = true) := by
  cases x with
  | lst xs =>
    cases k with
    | zero => simp [den] at h
    | succ k =>
      simp only [den] at h
      split at h
      · cases e : densW (den cs k) xs with
        | none => rw [e] at h; cases h
        | some ys => rw [e] at h; cases h; cases hf
      · cases h
  | tup xs =>
    cases k with
    | zero => simp [den] at h
    | succ k =>
      simp only [den] at h
      split at h
      · cases e : densW (den cs k) xs with
        | none => rw [e] at h; cases h
        | some ys => rw [e] at h; cases h; cases hf
      · cases h
  | ref n =>
    cases k with
    | zero => simp [den] at h
    | succ k =>
      simp only [den] at h
      split at h
      · split at h
        · rename_i xs _ _
          cases e : densW (den cs k) xs with
          | none => rw [e] at h; cases h
          | some ys => rw [e] at h; cases h; cases hf
        · cases h
      · cases h
  | str s =>
    cases k <;> (simp only [den] at h; split at h <;> cases h; rename_i hs; exact ⟨rfl, fun s' e => by cases e; exact hs⟩)
  | dic _ _ => cases k <;> simp [den] at h
  | scr => cases k <;> simp [den] at h
  | clo _ _ _ => cases k <;> simp [den] at h
  | non => cases k <;> (simp only [den] at h; cases h; exact ⟨rfl, fun s e => by cases e⟩)
  | bl b => cases k <;> (simp only [den] at h; cases h; exact ⟨rfl, fun s e => by cases e⟩)
  | int b => cases k <;> (simp only [den] at h; cases h; exact ⟨rfl, fun s e => by cases e⟩)
theorem map_no {o : Option (List D)} {g : List D → D} {t : D} (h : o.map g = some t) : ∃ ys, t = g ys := by
  cases o with
  | none => cases h
  | some ys =>
    cases h
    exact ⟨ys, rfl⟩
def treeD : D → Prop
  | .dic _ _ => False
  | .ref _ => False
  | .scr => False
  | .clo _ _ _ => False
  | _ => True
theorem den_no {cs : Cs} {k : Nat} {x t : D} (h : den cs k x = some t) : treeD t := by
  cases x with
  | lst xs =>
    cases k with
    | zero => simp [den] at h
    | succ k =>
      simp only [den] at h
      split at h
      · obtain ⟨ys, e⟩ := map_no h
        rw [e]
        trivial
      · cases h
  | tup xs =>
    cases k with
    | zero => simp [den] at h
    | succ k =>
      simp only [den] at h
      split at h
      · obtain ⟨ys, e⟩ := map_no h
        rw [e]
        trivial
      · cases h
  | ref n =>
    cases k with
    | zero => simp [den] at h
    | succ k =>
      simp only [den] at h
      split at h
      · split at h
        · obtain ⟨ys, e⟩ := map_no h
          rw [e]
          trivial
        · cases h
      · cases h
  | str s =>
    cases k <;> (simp only [den] at h; split at h <;> cases h; trivial)
  | dic _ _ => cases k <;> simp [den] at h
  | scr => cases k <;> simp [den] at h
  | clo _ _ _ => cases k <;> simp [den] at h
  | non => cases k <;> (simp only [den] at h; cases h; trivial)
  | bl b => cases k <;> (simp only [den] at h; cases h; trivial)
  | int b => cases k <;> (simp only [den] at h; cases h; trivial)
theorem ok_sameR (k : Nat) (hk : k ≤ 64) : okFn 4 (c_same (spSR k)) (spSR (k + 1)) := by
  rintro ds cs Q X ⟨x, y, t, rfl, hx, hy, hQ⟩
  show wpS (c_same (spSR k)) [some x, some y, none, none] cs _
  unfold c_same
  simp only [wpS]
  have seqs : ∀ (k' : Nat) (xs ys ts : List D), k = k' + 1 → densW (den cs k') xs = some ts → densW (den cs k') ys = some ts → xs.length ≤ lim → ∀ (σ : Sl) (R : List D → Cs → Prop) (a b : Option D),
      R (List.replicate xs.length (.bl true)) cs → ∀ grd : Cs → Prop, grd cs → compL (.tup (.cons (.nm 2) (.cons (.nm 3) .nil))) grd [some x, some y, none, none] (fun σ1 c2 K => K (D.bl true) c2) (fun σ1 c2 K => wpE (.app (spSR k) (.cons (.v 2) (.cons (.v 3) .nil))) σ1 c2 K fun _ _ => False) R (zipD xs ys) [] cs := fun k' xs ys ts ek hx hy hl σ R a b hR grd hg => by
    have le : xs.length = ys.length := (densW_len hx).trans (densW_len hy).symm
    refine compL_map (fun _ => .bl true) hg _ _ (fun d hd => ?_) (by rw [zipD_len2 le]; simpa using hl) ?_
    · obtain ⟨a, b, u, e, h1, h2⟩ := densW_zip hx hy d hd
      subst e
      refine ⟨_, rfl, fun K h => h, fun K h => ?_⟩
      subst ek
      exact ⟨a, b, u, rfl, h1, h2, h⟩
    · rw [List.nil_append, map_const, zipD_len2 le]
      exact hR
  rw [c_same_2]
  cases t with
  | lst ts =>
    obtain ⟨k1, xs, ek, ax, lx, dx⟩ := den_lst hx
    obtain ⟨k2, ys, ek2, ay, ly, dy⟩ := den_lst hy
    have e12 : k1 = k2 := by omega
    subst e12
    have le : xs.length = ys.length := (densW_len dx).trans (densW_len dy).symm
    rcases ax with rfl | ⟨n, rfl, hn⟩ <;> rcases ay with rfl | ⟨m, rfl, hm⟩
    · simp [isN]
      rw [c_same_6]
      simp [isTy]
      rw [c_same_4]
      simp [isTy]
      rw [c_same_5]
      simp [iZip, le]
      refine seqs k1 xs ys ts ek dx dy lx [] _ none none ?_ _ (by simp [grdL])
      simp [asBools_true]
      exact hQ
    · simp [isN]
      rw [c_same_6]
      simp [isTy, hm]
      rw [c_same_4]
      simp [isTy, hm]
      rw [c_same_5]
      simp [iZip, le, hm]
      refine seqs k1 xs ys ts ek dx dy lx [] _ none none ?_ _ (by simp [grdL])
      simp [asBools_true]
      exact hQ
    · simp [isN]
      rw [c_same_6]
      simp [isTy, hn]
      rw [c_same_4]
      simp [isTy, hn]
      rw [c_same_5]
      simp [iZip, le, hn]
      refine seqs k1 xs ys ts ek dx dy lx [] _ none none ?_ _ (by simp [grdL])
      simp [asBools_true]
      exact hQ
    · simp [isN]
      rw [c_same_6]
      simp [isTy, hn, hm]
      rw [c_same_4]
      simp [isTy, hn, hm]
      rw [c_same_5]
      simp [iZip, le, hn, hm]
      refine seqs k1 xs ys ts ek dx dy lx [] _ none none ?_ _ (by simp [grdL])
      simp [asBools_true]
      exact hQ
  | tup ts =>
    obtain ⟨k1, xs, ek, rfl, lx, dx⟩ := den_tup hx
    obtain ⟨k2, ys, ek2, rfl, ly, dy⟩ := den_tup hy
    have e12 : k1 = k2 := by omega
    subst e12
    have le : xs.length = ys.length := (densW_len dx).trans (densW_len dy).symm
    simp [isN]
    rw [c_same_6]
    simp [isTy]
    rw [c_same_4]
    simp [isTy]
    rw [c_same_5]
    simp [iZip, le]
    refine seqs k1 xs ys ts ek dx dy lx [] _ none none ?_ _ trivial
    simp [asBools_true]
    exact hQ
  | non =>
    obtain ⟨rfl, _⟩ := den_flat hx rfl
    obtain ⟨rfl, _⟩ := den_flat hy rfl
    rw [c_same_1]
    simp [isN]
    exact hQ
  | int i =>
    obtain ⟨rfl, _⟩ := den_flat hx rfl
    obtain ⟨rfl, _⟩ := den_flat hy rfl
    simp [isN]
    rw [c_same_6]
    simp [isTy]
    rw [c_same_8]
    simp [isTy]
    rw [c_same_9]
    simp [isTy]
    exact hQ
  | bl i =>
    obtain ⟨rfl, _⟩ := den_flat hx rfl
    obtain ⟨rfl, _⟩ := den_flat hy rfl
    simp [isN]
    rw [c_same_6]
    simp [isTy]
    rw [c_same_8]
    simp [isTy]
    rw [c_same_9]
    simp [isTy]
    exact hQ
  | str i =>
    obtain ⟨rfl, hs⟩ := den_flat hx rfl
    obtain ⟨rfl, _⟩ := den_flat hy rfl
    simp [isN]
    rw [c_same_6]
    simp [isTy]
    rw [c_same_8]
    simp [isTy]
    rw [c_same_9]
    simp [isTy, sEq_e, deref, pur, eqD, hs i rfl]
    exact hQ
  | dic _ _ => exact (den_no hx).elim
  | ref _ => exact (den_no hx).elim
  | scr => exact (den_no hx).elim
  | clo _ _ _ => exact (den_no hx).elim
mutual
theorem den_pur {cs : Cs} : ∀ (k : Nat) (x : D), pur k x = true → den cs k x = some x
  | k, .non, _ => by cases k <;> rfl
  | k, .bl b, _ => by cases k <;> rfl
  | k, .int i, _ => by cases k <;> rfl
  | k, .str s, h => by
    have hs : strOk s = true := by cases k <;> exact h
    cases k <;> simp [den, hs]
  | 0, .lst _, h => by cases h
  | 0, .tup _, h => by cases h
  | k + 1, .lst xs, h => by
    simp only [den]
    rw [if_pos (pur_len h), densW_pur k xs (pur_in h)]
    rfl
  | k + 1, .tup xs, h => by
    simp only [den]
    rw [if_pos (pur_len h), densW_pur k xs (pur_in h)]
    rfl
  | k, .dic _ _, h => by cases k <;> cases h
  | k, .ref _, h => by cases k <;> cases h
  | k, .scr, h => by cases k <;> cases h
  | k, .clo _ _ _, h => by cases k <;> cases h
theorem densW_pur {cs : Cs} : ∀ (k : Nat) (xs : List D), purs k xs = true → densW (den cs k) xs = some xs
  | _, [], _ => rfl
  | k, x :: xs, h => by
    have h : (pur k x && purs k xs) = true := h
    rw [Bool.and_eq_true] at h
    unfold densW
    rw [den_pur k x h.1, densW_pur k xs h.2]
end
theorem spSR_e {k : Nat} {x y t : D} {cs : Cs} {Q : KD} {X : KX} (hx : den cs k x = some t) (hy : den cs k y = some t) (hQ : Q (.bl true) cs) : spSR (k + 1) [x, y] cs Q X := ⟨x, y, t, rfl, hx, hy, hQ⟩
theorem spSR_p {k : Nat} {x : D} {cs : Cs} {Q : KD} {X : KX} (hx : pur k x = true) (hQ : Q (.bl true) cs) : spSR (k + 1) [x, x] cs Q X := spSR_e (den_pur k x hx) (den_pur k x hx) hQ
theorem den_cell {cs : Cs} {k n : Nat} {xs : List D} (hc : cs n = some (.lst xs)) (h : purs k xs = true) (hl : xs.length ≤ lim) : den cs (k + 1) (.ref n) = some (.lst xs) := by
  simp only [den, hc]
  rw [if_pos hl, densW_pur k xs h]
  rfl
open PySem PySem.Spec L2 in
theorem fnOk_zeroR {P : Program} {w : World} {K : PySem.W.Frag} {mg : PySem.Str → Option Value} {base : Heap} {f : Addr} {fd : FuncData} {ps : List PySem.Str} : FnOk P w K mg base (L2N.CX P w) 0 f fd ps (lift K mg (spSR 0)) := fnOk_false
end G

/-! GFind: the laws' own finds; strange nodes. -/
namespace G
open PySem (Str)
theorem cmp_nil {p : List Nat} {t : Nat} : cmp p [] t = p := ext_par cmp_len fun i hi => by
  rw [cmp_len] at hi
  rw [cmp_par hi, if_neg (by simp)]
theorem cmp_set {p pre : List Nat} {t j : Nat} (hj : j < p.length) : (cmp p pre t).set j t = cmp p (pre ++ [j]) t := by
  refine ext_par (by rw [List.length_set, cmp_len, cmp_len]) fun i hi => ?_
  rw [List.length_set, cmp_len] at hi
  rw [cmp_par hi, par_get (by rw [List.length_set, cmp_len]; exact hi), List.getElem_set]
  by_cases e : j = i
  · subst e
    rw [if_pos rfl, if_pos (by simp)]
  · rw [if_neg e, ← par_get (by rw [cmp_len]; exact hi), cmp_par hi]
    by_cases m : i ∈ pre
    · rw [if_pos m, if_pos (by simp [m])]
    · rw [if_neg m, if_neg (by simp [m]; exact fun z => e z.symm)]
theorem nI_setI {xs : List Nat} {i v : Nat} : (nI xs).set i (.int (v : Nat)) = nI (xs.set i v) := by simp [nI, List.map_set]
@[simp] theorem sListOfM_e {x : D} {cs : Cs} {Q : KD} {X : KX} : sListOfM [x] cs Q X = match getQ x cs with
    | some xs => ∀ n, cs n = none → Q (.ref n) (put cs n (.lst xs))
    | none => False := rfl
theorem ok_l_find : okFnL 8 (c_l_find spRoot) spFnd := by
  rintro ds cs Q X ⟨p, i, rfl, h, hi, hl, hQ⟩
  show wpS (.seq (c_l_find_1 spRoot) (.seq (c_l_find_2 spRoot) (.seq (c_l_find_7 spRoot) (c_l_find_8 spRoot)))) [some (fD p), some (.int (i : Nat)), none, none, none, none, none, none] cs _
  simp only [wpS]
  rw [c_l_find_1]
  simp only [wpS, wpE, wpEs, getV, sListOfM_e, getQ_fD]
  intro n hn
  refine ⟨show 3 ≤ 16777216 by decide, ?_⟩
  simp only [bindP, List.set]
  rw [c_l_find_2]
  simp only [wpS, wpE, wpEs, bindP, getV, List.set]
  refine spRoot_e h hi hl ?_
  rw [c_l_find_7]
  simp only [wpS, wpE, wpEs, getV, len_fD]
  have rl := root_lt h i hi
  refine rng1_inv (fun s σ c => ∃ pre j a b, c = put cs n (.lst (nI (cmp p pre (root p i)))) ∧ σ = [some (fD p), some (.int (i : Nat)), some (.ref n), some (.int (pre.length : Nat)), some (.int (j : Nat)), some (.int (root p i : Nat)), a, b] ∧ pre ++ path p j = path p i ∧ j < p.length ∧ (s ≤ pre.length ∨ j = root p i)) (by omega) (by omega) ⟨[], i, none, none, by rw [cmp_nil], rfl, rfl, hi, .inl (Nat.le_refl _)⟩ ?_ ?_
  · rintro s σ c hs ⟨pre, j, a, b, rfl, rfl, hp, hj, hd⟩ K' h1 h2 h3 h4 h5
    clear h2 h3 h4 h5
    rw [c_l_find_6]
    simp
    by_cases e : j = root p i
    · rw [if_pos e]
      exact h1 _ _ ⟨pre, j, _, _, rfl, rfl, hp, hj, .inr e⟩
    · have ne : par p j ≠ j := fun z => by
        have hin : j ∈ path p i := by rw [← hp]; exact List.mem_append_right _ (mem_self h hj)
        have := root_in h i hi j hin
        rw [root_root h hj z] at this
        exact e this
      rw [if_neg e, c_l_find_3]
      simp [sIx_e, getQ_fD, ix_par hj]
      rw [c_l_find_4]
      simp [ixn_nat (show j < (cmp p pre (root p i)).length by rw [cmp_len]; exact hj), nI_setI, cmp_set hj]
      rw [c_l_find_5]
      simp
      refine ⟨show 2 ≤ 16777216 by decide, h1 _ _ ⟨pre ++ [j], par p j, some (.int (s : Nat)), some (.int (par p j : Nat)), rfl, ?_, ?_, par_lt h hj, ?_⟩⟩
      · simp
      · rw [← hp, path_step h hj ne]
        simp
      · rcases hd with z | z
        · left
          simp
          omega
        · exact absurd z e
  · rintro σ c ⟨pre, j, a, b, rfl, rfl, hp, hj, hd⟩
    have e : j = root p i := by
      rcases hd with z | z
      · have l1 := congrArg List.length hp
        have l2 : 0 < (path p j).length := List.length_pos_iff.mpr (path_ne j)
        have l3 := path_le h hi
        rw [List.length_append] at l1
        omega
      · exact z
    have e2 : path p i = pre ++ [root p i] := by
      rw [← hp, e, path_root h rl.1 rl.2]
    have e3 : cmp p pre (root p i) = fnd p i := by
      unfold fnd
      refine ext_par (by rw [cmp_len, cmp_len]) fun v hv => ?_
      rw [cmp_len] at hv
      rw [cmp_par hv, cmp_par hv, e2]
      by_cases m : v ∈ pre
      · rw [if_pos m, if_pos (by simp [m])]
      · rw [if_neg m]
        by_cases r : v = root p i
        · rw [if_pos (by simp [r]), r, rl.2]
        · rw [if_neg (by simp [m, r])]
    have e4 : pre.length = cst p i := by
      unfold cst
      rw [e2]
      simp
    rw [c_l_find_8]
    simp
    refine ⟨show 2 ≤ 16777216 by decide, cs, (Le.refl _).put hn, ?_⟩
    rw [e3, e4]
    exact hQ
theorem ok_l_found : okFn 5 (c_l_found spFnd) spAll := by
  rintro ds cs Q X ⟨p, x, xs, rfl, hs, h, hx, hl, hm, hQ⟩
  show wpS (.seq (c_l_found_1 spFnd) (.seq (c_l_found_4 spFnd) (.seq (.frz 2) (c_l_found_5 spFnd)))) [some (fD p), some x, none, none, none] cs _
  simp only [wpS]
  rw [c_l_found_1]
  simp only [wpS, wpE, wpEs, bindP, getV, List.set, sListM_e]
  refine ⟨Nat.zero_le _, fun n hn => ?_⟩
  rw [c_l_found_4]
  simp only [wpS, wpE, wpEs, getV]
  refine iSeq_e hs (forL_inv (fun j σ d => d = put cs n (.lst (nI (fndAll p (xs.take j)).2)) ∧ ∃ a b, σ = [some (fD (fndAll p (xs.take j)).1), some x, some (.ref n), a, b]) _ 0 ⟨rfl, _, _, rfl⟩ (fun _ _ _ _ _ _ => hs.g) ?_ ?_)
  · rintro j d σ c' hd ⟨rfl, a, b, rfl⟩
    have hj : j < xs.length := by simpa using (List.getElem?_eq_some_iff.mp hd).1
    rw [nI_get hj] at hd
    cases hd
    refine ⟨_, rfl, fun K' h1 h2 h3 h4 h5 => ?_⟩
    clear h2 h3 h4 h5
    have sub : ∀ i ∈ xs.take j, i < p.length := fun i hi => hx i (List.mem_of_mem_take hi)
    have fo := fndAll_fo h sub
    have hi := hx _ (List.getElem_mem hj)
    show wpS (.seq (c_l_found_2 spFnd) (c_l_found_3 spFnd)) _ _ _
    simp only [wpS]
    rw [c_l_found_2, c_l_found_3]
    simp only [wpS, wpE, wpEs, getV, List.set, Nat.zero_add]
    refine spFnd_e fo.1 (by rw [fo.2.1]; exact hi) (by rw [fo.2.1]; exact hl) ?_
    simp
    refine ⟨?_, h1 _ _ ⟨?_, some (.int (xs[j] : Nat)), some (.int (cst (fndAll p (xs.take j)).1 xs[j] : Nat)), ?_⟩⟩
    · rw [fo.2.2, List.length_take]
      show _ < 16777216
      omega
    · rw [Nat.zero_add, List.take_succ_eq_append_getElem hj, fndAll_snoc]
      simp [nI]
    · rw [Nat.zero_add, List.take_succ_eq_append_getElem hj, fndAll_snoc]
  · rintro σ c' ⟨rfl, a, b, rfl⟩
    have e : xs.take (0 + (nI xs).length) = xs := by rw [nI_len, Nat.zero_add, List.take_length]
    rw [e]
    rw [c_l_found_5]
    simp
    refine ⟨show 2 ≤ 16777216 by decide, ?_⟩
    rw [del_put hn]
    exact hQ
/-- an integer that is no node -/
def spOdd : Spec := fun ds cs Q _ => ∃ n s, ds = [.ref n, .int (s : Nat)] ∧ cs n = some .drw ∧ ∀ v : Int, (v < 0 ∨ (s : Int) ≤ v) → v.natAbs ≤ s + 1000000000 → Q (.int v) cs
theorem spOdd_e {n s : Nat} {cs : Cs} {Q : KD} {X : KX} (hc : cs n = some .drw) (hQ : ∀ v : Int, (v < 0 ∨ (s : Int) ≤ v) → v.natAbs ≤ s + 1000000000 → Q (.int v) cs) : spOdd [.ref n, .int (s : Nat)] cs Q X := ⟨_, _, rfl, hc, hQ⟩
theorem ok_odd : okFn 2 (c_l_strange spOf spTake) spOdd := by
  rintro ds cs Q X ⟨n, s, rfl, hc, hQ⟩
  show wpS (c_l_strange_1 spOf spTake) [some (.ref n), some (.int (s : Nat))] cs _
  rw [c_l_strange_1]
  simp [spTake_e, spOf_e, hc, lim]
  refine ⟨powOk_c (by omega), fun r r0 r1 => ⟨powOk_c (by omega), fun q q0 q1 => ⟨hQ _ (.inr (by omega)) (by omega), hQ _ (.inl (by omega)) (by omega), hQ _ (.inr (by omega)) (by omega), hQ _ (.inl (by omega)) (by omega)⟩⟩⟩
end G

/-! GExc: own exceptions whose __init__ stores a tag and a field, over any built-in base; raise. -/
namespace G
open PySem PySem.Spec L2
open Evl (Ex)
/-- an own exception class over a built-in one -/
structure XcC (K : PySem.W.Frag) (C : Addr) : Prop where
  base : ∃ (B newId initId : String) (bmB : List Value), ExcBaseFacts B newId initId bmB ∧ StoreFacts B bmB "object.__setattr__" "object" ∧ PySem.W.excInitIn K C bmB newId = true ∧ PySem.W.excOver K C bmB = true
  hd : PySem.W.hasDictIn K C = true
  sa : PySem.W.findIn K (.ref C) "__setattr__" = some (some (.builtin "object.__setattr__"))
  exC : PySem.W.subIn K (.ref C) (.type "BaseException") = some true
  tyC : PySem.W.typeIn K (.ref C) = some (.type "type")
  kC : PySem.W.keepIn K (.ref C) = true
def xcBases : List (String × String × List Value) := [("ValueError", "ValueError.__new__", [.type "ValueError", .type "Exception", .type "BaseException", .type "object"]), ("LookupError", "LookupError.__new__", [.type "LookupError", .type "Exception", .type "BaseException", .type "object"]),
  ("IndexError", "IndexError.__new__", [.type "IndexError", .type "LookupError", .type "Exception", .type "BaseException", .type "object"])]
def xcB (K : PySem.W.Frag) (C : Addr) : Bool := xcBases.any (fun q => PySem.W.excInitIn K C q.2.2 q.2.1 && PySem.W.excOver K C q.2.2) && (PySem.W.hasDictIn K C && (decide (PySem.W.findIn K (.ref C) "__setattr__" = some (some (.builtin "object.__setattr__"))) &&
  (decide (PySem.W.subIn K (.ref C) (.type "BaseException") = some true) && (decide (PySem.W.typeIn K (.ref C) = some (.type "type")) && PySem.W.keepIn K (.ref C)))))
theorem xcB_ok {K : PySem.W.Frag} {C : Addr} (h : xcB K C = true) : XcC K C := by
  unfold xcB at h
  simp only [Bool.and_eq_true, decide_eq_true_eq] at h
  obtain ⟨h1, h2, h3, h4, h5, h6⟩ := h
  refine ⟨?_, h2, h3, h4, h5, h6⟩
  obtain ⟨q, hq, e⟩ := List.any_eq_true.mp h1
  rw [Bool.and_eq_true] at e
  simp only [xcBases, List.mem_cons, List.not_mem_nil, or_false] at hq
  rcases hq with hq | hq | hq
  · subst hq
    exact ⟨_, _, _, _, F.excBase_ValueError, F.store_ValueError, e.1, e.2⟩
  · subst hq
    exact ⟨_, _, _, _, F.excBase_LookupError, F.store_LookupError, e.1, e.2⟩
  · subst hq
    exact ⟨_, _, _, _, F.excBase_IndexError, F.store_IndexError, e.1, e.2⟩
theorem taker_none {K : PySem.W.Frag} {C : Addr} {f : Str} (h : PySem.W.findIn K (.ref C) f = some none) : PySem.W.takerIn K C f = some none := by
  unfold PySem.W.takerIn
  rw [h]
  rfl
theorem cls_hd {K : PySem.W.Frag} {C : Addr} (h : PySem.W.hasDictIn K C = true) : ∃ cd, PySem.W.clsIn K C = some cd ∧ cd.hasDict = true := by
  unfold PySem.W.hasDictIn at h
  cases e : PySem.W.clsIn K C with
  | none => rw [e] at h; cases h
  | some cd => rw [e] at h; exact ⟨cd, rfl, h⟩
section
variable {X : Cx} {pins : List (Addr × Obj)} {σ : St} {H : Hp} {s : Shared} {a C dx : Addr} {f : Str} {y : V} {u : Value} {fs : List (Str × V)} {Q : Unit → Shared → Prop} {E : Value → Shared → Prop} {A : Around}
theorem fin_store {R : Result → Shared → Prop} {F : Fin} {s' : Shared} (h : F = .done (.ret .none)) (q : R (.ok (.ret .none)) s') : (match F with | .done f => R (.ok f) s' | .again c' => c'.quiet = true ∧ codeAny (model X.prog X.w) A c' R s') := by
  subst h
  exact q
/-- the first field of a new exception -/
theorem xs_new (T : XcC X.K C) (I : Inv X pins σ H s) (e : H a = some (exo a C none)) (hno : PySem.W.findIn X.K (.ref C) f = some none) (ry : RelV y u)
    (h : ∀ dx s', H dx = none → dx ≠ a → Inv X pins σ (upd (upd H dx (exd dx [(f, y)])) a (exo a C (some dx))) s' → Q () s') : wpAny (model X.prog X.w) A (setAttr (.ref a) f u) Q E s := by
  obtain ⟨B, newId, initId, bmB, FB, SF, T1, T2⟩ := T.base
  obtain ⟨cd, hcl, hdd⟩ := cls_hd T.hd
  obtain ⟨t1, ho⟩ := exo_at I.hok e
  obtain ⟨hp, g, d, t, os⟩ := s
  have hxs : a ≠ hp.objs.size := Nat.ne_of_lt (Heap.lt_size ho)
  have IA : PySem.W.InstAt hp a { cls := .ref C, dict := none, data := .fields #[.ref t1, .none, .none, .none, .bool false, .none] } C none := ⟨ho, rfl, rfl, trivial⟩
  refine PySem.W.set_plain I.kIn (ox := { cls := .ref C, dict := none, data := .fields #[.ref t1, .none, .none, .none, .bool false, .none] }) (od := none) IA T.sa ?_
  have fin : ∀ h' tk' dx, (∀ b o, b ≠ a → hp.get? b = some o → h'.get? b = some o) → hp.objs.size ≤ dx → dx ≠ a → h'.get? a = some ({ cls := .ref C, dict := some dx, data := .fields #[.ref t1, .none, .none, .none, .bool false, .none] } : Obj) →
      h'.Ns1 dx (fun z => if z = f then some u else none) → Q () ⟨h', g, d, tk', os⟩ := fun h' tk' dx k dn dne hx hn => by
    have hnd : H dx = none := I.hok.fresh dn
    have nd : ∀ {b : Addr} {o : Obj}, hp.get? b = some o → b ≠ dx := fun {b o} q => Nat.ne_of_lt (Nat.lt_of_lt_of_le (Heap.lt_size q) dn)
    have na : ∀ {b : Addr}, H b = none → b ≠ a := fun {b} n z => by
      rw [z, e] at n
      cases n
    have U : Un X.fs [] H (upd (upd H dx (exd dx [(f, y)])) a (exo a C (some dx))) hp h' := by
      constructor
      · exact fun b o q n _ _ => k b o (na n) q
      · exact fun b o q n _ _ => ⟨o.slots, k b o (na n) q⟩
      · exact fun b o q n _ => by rw [upd_ne (na n), upd_ne (nd q)]; exact n
      · intro b o q _
        by_cases hb : b = a
        · exact ⟨_, by rw [hb]; exact hx⟩
        · exact ⟨o, k b o hb q⟩
      · exact fun b xs q => by rw [upd_ne (at_ne e q exo_tup), upd_ne (ne_of_none q hnd)]; exact q
      · exact fun b o v q => by rw [upd_ne (at_ne e q exo_frz), upd_ne (ne_of_none q hnd)]; exact q
      · exact fun b ps q => ⟨#[], by rw [upd_ne (at_ne e q exo_tbl), upd_ne (ne_of_none q hnd), q]; simp⟩
    refine h dx _ hnd dne (I.un (t' := tk') U fun b o q => ?_)
    by_cases hb : b = a
    · subst hb
      rw [upd_same] at q
      cases q
      exact exo_ok hx
    · rw [upd_ne hb] at q
      by_cases hd : b = dx
      · subst hd
        rw [upd_same] at q
        cases q
        exact exd_ok hn (relO_put (fs := []) ry fun g => True.intro)
      · rw [upd_ne hd] at q
        refine (I.hok b o q).stay (fun c v hc z => k c v ?_ z) (fun c hc => ?_) (fun c xs hc => ?_)
        · rcases hc with hc | hc
          · rw [hc]
            exact hb
          · exact at_ne e hc exo_own
        · rw [upd_ne (at_ne e hc exo_own), upd_ne (ne_of_none hc hnd)]
          exact hc
        · rw [upd_ne (at_ne e hc exo_tup), upd_ne (ne_of_none hc hnd)]
          exact hc
  refine PySem.W.osa_openX (s := ⟨hp, g, d, t + 1, os⟩) SF I.kIn IA T2 (taker_none hno) fun b => ?_
  have hcls : PySem.W.Looks (model X.prog X.w) hp (classData C) cd := PySem.W.looks_clsIn I.kIn hcl
  obtain ⟨nm, bs, mro, ns, qn, hdc, sn, sb, ab, col, del⟩ := cd
  dsimp only at hdd
  subst hdd
  unfold Builtin.ObjectAttr.storeInOwnDict Builtin.ObjectAttr.ownDictForStores
  repeat (first | with_reducible refine PySem.HandSPX.store_in_new ?_ ?_ | with_reducible refine wpAny_loadPart_at ho ?_ | with_reducible refine hcls.at ?_ | wp_step)
  · exact ⟨_, #[], _, (Heap.get?_update_ne _ _ _ _ hxs.symm).trans (Heap.get?_push_at rfl rfl), rfl, fun e he => absurd he (by simp), fun _ => rfl⟩
  · intro h' tk' hn' hs
    have hx₁ : (hp.push { cls := .type "dict", data := .dict #[] }).get? a = some ({ cls := .ref C, dict := none, data := .fields #[.ref t1, .none, .none, .none, .bool false, .none] } : Obj) := Heap.get?_push_of_some _ ho
    refine fin h' tk' hp.objs.size (fun b o hb ho => ?_) (Nat.le_refl _) hxs.symm ?_ hn'
    · exact (hs.2 b (Nat.ne_of_lt (Heap.lt_size ho))).trans ((Heap.get?_update_ne _ _ _ _ hb).trans (Heap.get?_push_of_some _ ho))
    · exact (hs.2 a hxs).trans (Heap.get?_update_self _ hx₁ rfl)
/-- a further field -/
theorem xs_old (T : XcC X.K C) (I : Inv X pins σ H s) (e : H a = some (exo a C (some dx))) (ed : H dx = some (exd dx fs)) (hl : fs.length ≤ 900) (hno : PySem.W.findIn X.K (.ref C) f = some none) (ry : RelV y u)
    (h : ∀ s', Inv X pins σ (upd H dx (exd dx ((f, y) :: fs))) s' → Q () s') : wpAny (model X.prog X.w) A (setAttr (.ref a) f u) Q E s := by
  obtain ⟨B, newId, initId, bmB, FB, SF, T1, T2⟩ := T.base
  obtain ⟨cd, hcl, hdd⟩ := cls_hd T.hd
  obtain ⟨t1, ho⟩ := exo_at I.hok e
  obtain ⟨mA, hns, rel⟩ := exd_at I.hok ed
  have hw := within_of rel
  obtain ⟨hp, g, d, t, os⟩ := s
  obtain ⟨oD, _, _, hoD, _, _⟩ := hns.count hw
  have IA : PySem.W.InstAt hp a { cls := .ref C, dict := some dx, data := .fields #[.ref t1, .none, .none, .none, .bool false, .none] } C (some oD) := ⟨ho, rfl, rfl, hoD⟩
  refine PySem.W.set_plain I.kIn (ox := { cls := .ref C, dict := some dx, data := .fields #[.ref t1, .none, .none, .none, .bool false, .none] }) (od := some oD) IA T.sa ?_
  refine PySem.W.osa_openX (s := ⟨hp, g, d, t + 1, os⟩) SF I.kIn IA T2 (taker_none hno) fun b => ?_
  have hcls : PySem.W.Looks (model X.prog X.w) hp (classData C) cd := PySem.W.looks_clsIn I.kIn hcl
  obtain ⟨nm, bs, mro, ns, qn, hdc, sn, sb, ab, col, del⟩ := cd
  dsimp only at hdd
  subst hdd
  unfold Builtin.ObjectAttr.storeInOwnDict Builtin.ObjectAttr.ownDictForStores
  repeat (first | with_reducible refine PySem.OEX.store_in_old hns hw (by rw [List.length_map]; omega) ?_ | with_reducible refine wpAny_loadPart_at ho ?_ | with_reducible refine hcls.at ?_ | wp_step)
  intro h' tk' hn' hs
  have hd : ∃ o, h'.get? dx = some o := by
    obtain ⟨o, _, _, e', _⟩ := hn'
    exact ⟨o, e'⟩
  exact h _ (I.write (t' := tk') (x := dx) (e := dx) (o := exd dx ((f, y) :: fs)) (by rw [ed]; exact True.intro) (.inl rfl) (fun b o hb e => (hs.2 b hb).trans e) hd (exd_ok hn' (relO_put ry rel)))
end
/-! ### self.f = .., as a target -/
def gX (K : PySem.W.Frag) (f : Str) (to : TE) : TG := fun y σ H Q => to σ H fun x H2 => ∃ a C : Addr, x = .ref a ∧ XcC K C ∧ PySem.W.findIn K (.ref C) f = some none ∧
  ((H2 a = some (exo a C none) ∧ ∀ dx, H2 dx = none → dx ≠ a → Q σ (upd (upd H2 dx (exd dx [(f, y)])) a (exo a C (some dx)))) ∨
    ∃ (dx : Addr) (fs : List (Str × V)), H2 a = some (exo a C (some dx)) ∧ H2 dx = some (exd dx fs) ∧ fs.length ≤ 900 ∧ Q σ (upd H2 dx (exd dx ((f, y) :: fs))))
section
variable {X : Cx} {o e : Expr} {es : List Expr} {to te : TE} {ta : TA} {f : Str} {p p' pos : Pos}
theorem pg_x (ho : PE X o to) (ha : ∀ v, assign (.Attribute o f p') X.env v = (do
      let ov ← holding [v] (eval o X.env)
      standAt p'.atName
      holding [v, ov] (setAttr ov f v)
      release [v, ov] []) := by intro _; rfl) : PG X (.Attribute o f p') (gX X.K f to) := by
  refine ⟨fun pins s σ H v u Q I r h => ?_⟩
  rw [ha]
  refine wpAny_bind (wpAny_holding (thn (ho.run pins s σ H _ I h) fun ov s1 ⟨x, H1, I1, r1, a, C, ex, T, hno, q⟩ => ?_))
  subst ex
  obtain rfl : ov = Value.ref a := r1
  refine wpAny_bind (wpAny_standAt (wpAny_bind (wpAny_holding ?_)))
  rcases q with ⟨ea, q⟩ | ⟨dx, fs, ea, ed, hl, q⟩
  · exact xs_new T I1 ea hno r fun dx s' n ne J => wpAny_release ⟨σ, _, J, q dx n ne⟩
  · exact xs_old T I1 ea ed hl hno r fun s' J => wpAny_release ⟨σ, _, J, q⟩
/-! ### C(e, ..), C's own __init__ keeping sp -/
def tMkX (C : Addr) (sp : Sp) (ta : TA) : St → Hp → XK → Prop := fun σ H Q => ta σ H fun vs H1 => vs.length ≤ 1000 ∧ ∀ a, H1 a = none → sp (.ref a :: vs) (upd H1 a (exo a C none))
  (fun v H2 => v = .non ∧ ∃ (d : Addr) (fs : List (Str × V)), H2 a = some (exo a C (some d)) ∧ H2 d = some (exd d fs) ∧ H1 d = none ∧ Q (.ref C) (some d) (upd (L2.del H2 a) d (.xd fs))) (fun _ _ _ => False)
theorem mkx_run {C fI : Addr} {k : Nat} {fd : FuncData} {ps : List Str} {sp : Sp} {pins : List (Addr × Obj)} {σ : St} {H1 : Hp} {s1 : Shared} {us : List Value} {vs : List V} {Q : XK} (T : XcC X.K C) (iC : PySem.W.findIn X.K (.ref C) "__init__" = some (some (.ref fI))) (tI : PySem.W.typeIn X.K (.ref fI) = some (.type "function"))
    (F1 : FnOk X.prog X.w X.K X.mg X.base (L2N.CX X.prog X.w) k fI fd ps sp) (hr : Room (k + 1) X.A) (hb : Binds X.K fd ps []) (hx : Passes (L2N.CX X.prog X.w) X (fun _ _ _ => False)) (I1 : Inv X pins σ H1 s1) (r1 : Vals vs us) (hz : vs.length ≤ 1000)
    (q1 : ∀ a, H1 a = none → sp (.ref a :: vs) (upd H1 a (exo a C none)) (fun v H2 => v = .non ∧ ∃ (d : Addr) (fs : List (Str × V)), H2 a = some (exo a C (some d)) ∧ H2 d = some (exd d fs) ∧ H1 d = none ∧ Q (.ref C) (some d) (upd (L2.del H2 a) d (.xd fs))) (fun _ _ _ => False)) :
    wpAny (model X.prog X.w) X.A (call (.ref C) us) (L2N.MkP X pins σ Q) X.xe s1 := by
  obtain ⟨B, newId, initId, bmB, FB, SF, T1, T2⟩ := T.base
  obtain ⟨hp, g, dr, tk, os⟩ := s1
  obtain ⟨nm, N, qn, bs, bm, hdct, sn, sub, ab, col, dd, k0, k1, k2, k3, k5, hC, hT⟩ := PySem.W.excInit_of I1.kIn T1
  have hsz : hp.objs.size ≤ hp.objs.size + 1 := Nat.le_succ _
  have hn : H1 (hp.objs.size + 1) = none := I1.hok.fresh hsz
  have hq := q1 (hp.objs.size + 1) hn
  have kk : ∀ b o, hp.get? b = some o → ((hp.push (PySem.W.kdv_tup us)).push (PySem.HandSPX.excO C hp.objs.size)).get? b = some o := fun b o e => Heap.get?_push_of_some _ (Heap.get?_push_of_some _ e)
  have hget : ((hp.push (PySem.W.kdv_tup us)).push (PySem.HandSPX.excO C hp.objs.size)).get? (hp.objs.size + 1) = some (PySem.HandSPX.excO C hp.objs.size) := by heap_get
  have I2 : Inv X pins σ (upd H1 (hp.objs.size + 1) (exo (hp.objs.size + 1) C none)) ⟨(hp.push (PySem.W.kdv_tup us)).push (PySem.HandSPX.excO C hp.objs.size), g, dr, tk, os⟩ :=
    I1.laid (t' := tk) (a := hp.objs.size + 1) (o := exo (hp.objs.size + 1) C none) (h' := (hp.push (PySem.W.kdv_tup us)).push (PySem.HandSPX.excO C hp.objs.size)) kk hsz (exo_ok hget)
  have r2 : Vals (V.ref (hp.objs.size + 1) :: vs) (Value.ref (hp.objs.size + 1) :: us) := .cons rfl r1
  have hl : (Value.ref (hp.objs.size + 1) :: us).length = ps.length := by
    have e := r2.length
    rw [F1.len _ _ _ _ hq] at e
    exact e.symm
  have hus : us.length ≤ sizeLine := by
    rw [← Paired.length r1, sizeLine_eq]
    omega
  have bb := hb _ (Value.ref (hp.objs.size + 1) :: us) I2.kIn (by rw [List.append_nil]; exact hl)
  rw [List.append_nil] at bb
  refine wpAny_call (PySem.HandSPX.call_own FB hT hC (PySem.W.looks_findIn I1.kIn iC) (fun self => PySem.W.bind_fn I1.kIn self tI) hus
    (codeAny_mono (F1.run _ X.stack _ _ ⟨Value.ref (hp.objs.size + 1) :: us, []⟩ (Value.ref (hp.objs.size + 1) :: us) _ _ (fun _ _ _ => False) (hr.make C us []) (I2.env0.make C us []) bb r2 hq) fun r s' hq' => ?_))
  cases r with
  | error er => exact hx pins σ _ _ er s' I2 hq'
  | ok fl =>
    cases fl with
    | ret u =>
      obtain ⟨v, H2, os2, bare2, un2, hok2, rv, ev, d, fs, ea, ed, hd1, q2⟩ := hq'
      subst ev
      obtain ⟨h2, g2, d2, t2, os'⟩ := s'
      obtain ⟨t0, G, J, kG, ge, hoe, na⟩ := mk_end0 (d2 := d2) (t2 := t2) I1 hsz kk un2 hok2 os2 bare2 ea ed hd1
      exact ⟨rv, hp.objs.size + 1, _, _, ⟨G, g2, d2, t2, os'⟩, _, .ref C, some d, rfl, J, kG, ge, hoe, ⟨rfl, rfl, fun vs hv => by cases hv; rfl⟩, rfl, rfl, na, rfl, bare2, raises_own T.exC T.tyC, q2⟩
    | next => exact False.elim hq'
    | brk => exact False.elim hq'
    | cont => exact False.elim hq'
theorem pmk_x {x : Str} {C fI : Addr} {k : Nat} {fd : FuncData} {ps : List Str} {sp : Sp} (T : XcC X.K C) (iC : PySem.W.findIn X.K (.ref C) "__init__" = some (some (.ref fI))) (tI : PySem.W.typeIn X.K (.ref fI) = some (.type "function"))
    (F1 : FnOk X.prog X.w X.K X.mg X.base (L2N.CX X.prog X.w) k fI fd ps sp) (hr : Room (k + 1) X.A) (hb : Binds X.K fd ps []) (hx : Passes (L2N.CX X.prog X.w) X (fun _ _ _ => False)) (hg : Gl X x) (hm : X.mg x = some (.ref C)) (ha : PA X (e :: es) ta)
    (hdb : (x == ("__debug__" : Str)) = false := by decide) (he : starEach (e :: es) X.env = (false, eval e X.env) :: starEach es X.env := by rfl) (hpl : (backTo pos (starEach es X.env)).any (·.1) = false := by rfl) :
    L2N.PMk X (.Call (.Name x p) (e :: es) [] pos) (tMkX C sp ta) := by
  intro pins s σ H Q I h
  refine wpAny_Call_Name_kw (ld_glob I hg hm ?_ hdb)
  refine PySem.W.callWith_K (h₀ := X.base) I.ok.mod.kin T.kC (thn (ha.run pos pins s σ H _ I h) fun us s1 ⟨vs, H1, I1, r1, hz, q1⟩ => ⟨I1.kIn, ?_⟩) he hpl
  exact mkx_run T iC tI F1 hr hb hx I1 r1 hz q1
end
end G

/-! GRaise: an error's __init__, raise. -/
namespace G
open PySem PySem.Spec L2
open Evl (Ex)
def clsBody (s : Stmt) : List Stmt := match s with
  | .ClassDef _ _ _ b _ _ _ _ _ _ _ => b
  | _ => []
/-- what the written part says of an error class with the field f -/
structure XcF (K : PySem.W.Frag) (C : Addr) (f : Str) : Prop where
  c : XcC K C
  tg : PySem.W.findIn K (.ref C) "tag" = some none
  fl : PySem.W.findIn K (.ref C) f = some none
/-- the __init__ of an error x with the field f -/
def spIni (K : PySem.W.Frag) (x f : Str) : Sp := fun vs H Q E => ∃ a C v, vs = [.ref a, v] ∧ XcF K C f ∧ H a = some (exo a C none) ∧
  ∀ p d, H p = none → upd H p (.tup [.str x, v]) d = none → Q .non (upd (upd (upd (upd H p (.tup [.str x, v])) d (exd d [("tag", .str x)])) a (exo a C (some d))) d (exd d [(f, v), ("tag", .str x)]))
def spIni0 (K : PySem.W.Frag) (x : Str) : Sp := fun vs H Q E => ∃ a C, vs = [.ref a] ∧ XcF K C "tag" ∧ H a = some (exo a C none) ∧
  ∀ d, H d = none → Q .non (upd (upd H d (exd d [("tag", .str x)])) a (exo a C (some d)))
theorem sw_none {a b x y : Expr} {f g : Str} {p1 p2 p3 p4 : Pos} {k1 k2 : Nat} {env : Env} : swappedStores [.Tuple [.Attribute a f p1, .Attribute b g p2] k1 p3] (.Tuple [x, y] k2 p4) env = pure none := by
  unfold swappedStores
  simp only [List.filterMap_cons, List.filterMap_nil]
  split
  · rfl
  · split
    · rfl
    · rfl
section
variable {P : Program} {w : World} {K : PySem.W.Frag} {mg : Str → Option Value} {base : Heap} {x qual f pn : Str} {params : Arguments} {scope : Scope} {fI : Addr} {fd : FuncData} {p1 p2 p3 p4 p5 p6 p7 p8 p9 : Pos} {j k1 k2 : Nat}
theorem ini_ok {body : List Stmt} (FD : FunD K "__init__" qual params body scope [] [] fI fd) (S : FnScope ["self", pn] ["self", pn] scope)
    (hv : scope.names.lookup ("self" : Str) = some .local) (hv2 : scope.names.lookup pn = some .local) (hb : body = [.Assign [.Tuple [.Attribute (.Name "self" p1) "tag" p2, .Attribute (.Name "self" p3) f p4] k1 p5] (.Tuple [.Constant (.str x) j p6, .Name pn p7] k2 p8) p9])
    (hd : (pn == ("__debug__" : Str)) = false := by decide) (hcd : (pn == ("__classdict__" : Str)) = false := by decide) : FnOk P w K mg base (L2N.CX P w) 1 fI fd ["self", pn] (spIni K x f) := by
  subst hb
  refine FD.ok S (fun vs H Q E h => ?_) fun cdv A outer s H vs Q E hr h => ?_
  · obtain ⟨a, C, v, e, _⟩ := h
    rw [e]
    rfl
  · obtain ⟨a, C, v, ev, T, ha, q⟩ := h
    subst ev
    refine ⟨_, pss_one (ps_asg (pe_tup (pa_cons pe_str (pa_cons (pe_var (i := 1) rfl (.inl hv2) hd hcd) pa_nil))) (pg_tup rfl (pgs_cons (pg_x (pe_var (i := 0) rfl (.inl hv))) (pgs_cons (pg_x (pe_var (i := 0) rfl (.inl hv))) pgs_nil))) rfl sw_none), ?_⟩
    refine ⟨v, rfl, by show 2 ≤ sizeLine; rw [sizeLine_eq]; decide, fun p hp => ⟨p, _, rfl, SqT.of upd_same, rfl, .str x, [v], rfl, .ref a, rfl, a, C, rfl, T.c, T.tg, .inl ⟨?_, fun d hd ne => ⟨v, [], rfl, .ref a, rfl, a, C, rfl, T.c, T.fl, .inr ⟨d, [("tag", .str x)], upd_same, ?_, Nat.le_of_ble_eq_true rfl, rfl, ?_⟩⟩⟩⟩⟩
    · rw [upd_ne (ne_of_none ha hp)]
      exact ha
    · rw [upd_ne ne, upd_same]
    · exact q p d hp hd
theorem ini0_ok {body : List Stmt} (FD : FunD K "__init__" qual params body scope [] [] fI fd) (S : FnScope ["self"] ["self"] scope)
    (hv : scope.names.lookup ("self" : Str) = some .local) (hb : body = [.Assign [.Attribute (.Name "self" p1) "tag" p2] (.Constant (.str x) j p6) p9]) : FnOk P w K mg base (L2N.CX P w) 1 fI fd ["self"] (spIni0 K x) := by
  subst hb
  refine FD.ok S (fun vs H Q E h => ?_) fun cdv A outer s H vs Q E hr h => ?_
  · obtain ⟨a, C, e, _⟩ := h
    rw [e]
    rfl
  · obtain ⟨a, C, ev, T, ha, q⟩ := h
    subst ev
    refine ⟨_, pss_one (ps_asg pe_str (pg_x (pe_var (i := 0) rfl (.inl hv)))), ?_⟩
    exact ⟨.ref a, rfl, a, C, rfl, T.c, T.tg, .inl ⟨ha, fun d hd ne => q d hd⟩⟩
/-- an error class by its name: its field, its __init__ -/
structure Xc (P : Program) (w : World) (K : PySem.W.Frag) (mg : Str → Option Value) (base : Heap) (x f : Str) : Prop where
  ex : ∃ C fI fd ps, mg x = some (.ref C) ∧ XcF K C f ∧ PySem.W.findIn K (.ref C) "__init__" = some (some (.ref fI)) ∧ PySem.W.typeIn K (.ref fI) = some (.type "function") ∧ FnOk P w K mg base (L2N.CX P w) 1 fI fd ps (spIni K x f) ∧ L2.Binds K fd ps []
structure Xc0 (P : Program) (w : World) (K : PySem.W.Frag) (mg : Str → Option Value) (base : Heap) (x : Str) : Prop where
  ex : ∃ C fI fd ps, mg x = some (.ref C) ∧ XcF K C "tag" ∧ PySem.W.findIn K (.ref C) "__init__" = some (some (.ref fI)) ∧ PySem.W.typeIn K (.ref fI) = some (.type "function") ∧ FnOk P w K mg base (L2N.CX P w) 1 fI fd ps (spIni0 K x) ∧ L2.Binds K fd ps []
end
section
variable {X : Cx} {W : WX} {e : Expr} {ce : E} {p pos pos' : Pos} {x f : Str}
theorem takes_false (tk : L2N.Takes X W) : Passes (L2N.CX X.prog X.w) X (fun _ _ _ => False) := fun pins σ H s er s' I c => tk er s' (L2N.XE.of_call I (fun _ _ _ z => z.elim) c)
theorem hend {H : Hp} {a p d : Addr} {t : HO} {u1 u2 u3 : HO} {o : HO} {fs : HO} (ha : H a = none) (hp : upd H a o p = none) (hd : upd (upd H a o) p t d = none) : upd (L2.del (upd (upd (upd (upd (upd H a o) p t) d u1) a u2) d u3) a) d fs = upd (upd H p t) d fs := by
  have pa : p ≠ a := fun z => by
    subst z
    rw [upd_same] at hp
    cases hp
  have dp : d ≠ p := fun z => by
    subst z
    rw [upd_same] at hd
    cases hd
  funext b
  by_cases hb : b = d
  · subst hb
    rw [upd_same, upd_same]
  · rw [upd_ne hb, upd_ne hb]
    by_cases hba : b = a
    · subst hba
      rw [L2.del_same, upd_ne (Ne.symm pa), ha]
    · rw [L2.del_ne hba, upd_ne hb, upd_ne hba, upd_ne hb]
      by_cases hbp : b = p
      · subst hbp
        rw [upd_same, upd_same]
      · rw [upd_ne hbp, upd_ne hbp, upd_ne hba]
theorem hend0 {H : Hp} {a d : Addr} {u1 u2 : HO} {o : HO} {fs : HO} (ha : H a = none) (hd : upd H a o d = none) : upd (L2.del (upd (upd (upd H a o) d u1) a u2) a) d fs = upd H d fs := by
  have da : d ≠ a := fun z => by
    subst z
    rw [upd_same] at hd
    cases hd
  funext b
  by_cases hb : b = d
  · subst hb
    rw [upd_same, upd_same]
  · rw [upd_ne hb, upd_ne hb]
    by_cases hba : b = a
    · subst hba
      rw [L2.del_same, ha]
    · rw [L2.del_ne hba, upd_ne hba, upd_ne hb, upd_ne hba]
/-- raise X(e) -/
theorem js_raise (XC : Xc X.prog X.w X.K X.mg X.base x f) (hr : Room 2 X.A) (tk : L2N.Takes X W) (hc : X.calm = true) (hg : Gl X x) (he : JE X W e ce) (hdb : (x == ("__debug__" : Str)) = false := by decide)
    (hs : starEach [e] X.env = (false, eval e X.env) :: starEach [] X.env := by rfl) (hpl : (backTo pos (starEach [] X.env)).any (·.1) = false := by rfl) :
    JS X W (.Raise (some (.Call (.Name x p) [e] [] pos)) none pos') (.rse (fun ds => er x f (ds.headD .non)) (.cons ce .nil)) := by
  obtain ⟨C, fI, fd, ps, hm, T, iC, tI, F1, hb⟩ := XC.ex
  obtain ⟨ta, p1, r1⟩ := ja_cons he ja_nil hs
  refine ⟨_, L2N.ps_raise hc tk (pmk_x T.c iC tI F1 hr hb (takes_false tk) hg hm p1 hdb hs hpl), fun wd F τ cs σ H P Q R rs h q => ?_⟩
  have h : wpEs (.cons ce .nil) τ cs (fun ds cs' => P.ex (er x f (ds.headD .non)) τ cs') (fun y cs' => P.ex y τ cs') := h
  refine r1 wd F τ cs σ H (fun ds cs' => (∃ d, ds = [d]) ∧ P.ex (er x f (ds.headD .non)) τ cs') _ _ R rs ?_ (fun wd1 ds c1 vs H1 l1 R1 rv h1 => ?_) (q.xok rs)
  · show wpE ce τ cs (fun d c1 => (∃ d', [d] = [d']) ∧ P.ex (er x f (([d] : List D).headD .non)) τ c1) _
    have e : (fun (d : D) (c1 : Cs) => (∃ d', [d] = [d']) ∧ P.ex (er x f (([d] : List D).headD .non)) τ c1) = fun d c1 => P.ex (er x f (([d] : List D).headD .non)) τ c1 := by
      funext d c1
      exact propext ⟨fun z => z.2, fun z => ⟨⟨d, rfl⟩, z⟩⟩
    rw [e]
    exact h
  · obtain ⟨⟨d, ed⟩, h1⟩ := h1
    subst ed
    obtain ⟨v, ev, rv1⟩ := rv.one
    subst ev
    refine ⟨Nat.le_of_ble_eq_true rfl, fun a ha => ⟨a, C, v, rfl, T, upd_same, fun pp dd hp hd => ⟨rfl, dd, _, ?_, upd_same, ?_, ?_⟩⟩⟩
    · have da : a ≠ dd := fun z => by
        subst z
        have pa : a ≠ pp := ne_of_none (upd_same (H := H1) (o := exo a C none)) hp
        rw [upd_ne pa, upd_same] at hd
        cases hd
      rw [upd_ne da, upd_same]
    · have dp : dd ≠ pp := fun z => by
        subst z
        rw [upd_same] at hd
        cases hd
      rw [upd_ne dp] at hd
      have da : dd ≠ a := fun z => by
        subst z
        rw [upd_same] at hd
        cases hd
      rw [upd_ne da] at hd
      exact hd
    · rw [hend ha hp hd]
      have pa : pp ≠ a := fun z => by
        subst z
        rw [upd_same] at hp
        cases hp
      rw [upd_ne pa] at hp
      have dp : dd ≠ pp := fun z => by
        subst z
        rw [upd_same] at hd
        cases hd
      rw [upd_ne dp] at hd
      have da : dd ≠ a := fun z => by
        subst z
        rw [upd_same] at hd
        cases hd
      rw [upd_ne da] at hd
      obtain ⟨R2, l2⟩ := R1.new hp (.tup [.str x, v])
      have hd2 : upd H1 pp (.tup [.str x, v]) dd = none := by rw [upd_ne dp]; exact hd
      obtain ⟨R3, l3⟩ := R2.new hd2 (.xd [(f, v), ("tag", .str x)])
      refine q.ex _ (er x f d) τ c1 σ _ _ _ (l1.trans (l2.trans l3)) R3 (rs.mono (l1.trans (l2.trans l3))) ⟨C, dd, [(f, v), ("tag", .str x)], hm, rfl, rfl, upd_same, rfl, ?_⟩ h1
      exact ⟨v, [.str x], rfl, rv1.mono (l2.trans l3), .str x, [], rfl, rfl, rfl⟩
end
end G

/-! GLam: lambdas made: without parameters, or with one that has a whole number as default. -/
namespace G
open PySem PySem.Spec L2 PyProof.Rows
open Evl (Ex)
/-- a function object of a lambda -/
abbrev lamFd (t : LamT) (cl : List (Str × Addr)) (pm : Value) (cv ctv dV : Value) : FuncData := { PySem.W.kla_fn "<lambda>" t.q t.params t.body t.scope cl pm cv ctv with defaults := dV }
section
variable {M : Model} {A : Around} {E : Value → Shared → Prop} {s : Shared} {t : LamT} {env : Env} {c P : Addr} {ps : Array Value} {pos : Pos} {firstLine : Nat} {mg : Str → Option Value} {clos : List (Str × Addr)} {Q : Value → Shared → Prop}
theorem tail_new {dV : Value} (hcl : closureFor t.scope env = pure clos) (hge0 : env.globals = mainGlobals) (hg : s.heap.Ns mainGlobals mg) (hcode : env.code = .ref c) (C : PySem.W.CodeHd s.heap c P) (hP : s.heap.get? P = some (PySem.W.tabObj ps)) (ht : TriplesOk ps.toList)
    (hnf : codeAmong pos ps.toList = none) (hgP : mainGlobals ≠ P) (hb : s.heap.BuiltinsAt mg P)
    (h : ∀ c' pm ctv h' tk, Heap.ExtBut P s.heap h' → s.heap.objs.size ≤ c' → c' < h'.objs.size → h'.CodeRec (.ref c') t.q → h'.get? P = some (PySem.W.tabObj (ps ++ #[rawInt pos.line, rawInt pos.col, .ref c'])) →
      Q (.ref h'.objs.size) { s with heap := h'.push { cls := .type "function", data := .func (lamFd t clos pm (.ref c') ctv dV) }, toks := tk }) :
    wpAny M A (makeTail "<lambda>" t.q t.params (.expr t.body) t.scope env dV .none none pos firstLine) Q E s := by
  obtain ⟨bm, ob, hbm, hne0, hneG, hneP, hbo, hcls, hdict, hdata⟩ := hb
  unfold makeTail
  rw [hcl, hge0]
  refine wpAny_bind (wpAny_pure ?_)
  cases clos with
  | nil =>
    simp only [List.isEmpty_nil, if_true]
    refine wpAny_bind (wpAny_pure ?_)
    refine wpAny_bind (wpAny_functionCodeX hcode (C.code hP ht) (C.tab hP) hnf fun c' h' tk hx hge hlt _ hrec htb _ => ?_)
    have hg' := hg.extBut hx hgP
    refine wpAny_bind (wpAny_builtinsFor hg' hbm hne0 (hx _ _ hneP hbo) hcls hdict hdata ?_)
    refine wpAny_bind (wpAny_nsGet hg' ?_)
    exact wpAny_bind (wpAny_pure (wpAny_newObj_type (h c' _ .none h' tk hx hge hlt hrec htb.2) (by size_fits)))
  | cons q r =>
    simp only [List.isEmpty_cons, Bool.false_eq_true, if_false]
    refine wpAny_bind (wpAny_newTextTuple ?_)
    have kp : ∀ (u : Obj) b o, s.heap.get? b = some o → (s.heap.push u).get? b = some o := fun u b o e => Heap.get?_push_of_some _ e
    refine wpAny_bind (wpAny_functionCodeX hcode ((C.keeps (kp _)).code (kp _ _ _ hP) ht) ((C.keeps (kp _)).tab (kp _ _ _ hP)) hnf fun c' h' tk hx hge hlt _ hrec htb _ => ?_)
    have hg' := (hg.push _).extBut hx hgP
    have hx' : Heap.ExtBut P s.heap h' := fun b o hb' e => hx b o hb' (kp _ _ _ e)
    have hge' : s.heap.objs.size ≤ c' := Nat.le_trans (by rw [Heap.size_push]; omega) hge
    refine wpAny_bind (wpAny_builtinsFor hg' hbm hne0 (hx' _ _ hneP hbo) hcls hdict hdata ?_)
    refine wpAny_bind (wpAny_nsGet hg' ?_)
    exact wpAny_bind (wpAny_pure (wpAny_newObj_type (h c' _ _ h' tk hx' hge' hlt hrec htb.2) (by size_fits)))
theorem tail_hit {dV cv : Value} (hcl : closureFor t.scope env = pure clos) (hge0 : env.globals = mainGlobals) (hg : s.heap.Ns mainGlobals mg) (hcode : env.code = .ref c) (C : PySem.W.CodeHd s.heap c P) (hP : s.heap.get? P = some (PySem.W.tabObj ps)) (ht : TriplesOk ps.toList)
    (hf : codeAmong pos ps.toList = some cv) (hb : s.heap.BuiltinsAt mg P)
    (h : ∀ (pm ctv : Value) (h' : Heap) (tk : Tok), (∀ b o, s.heap.get? b = some o → h'.get? b = some o) → Q (.ref h'.objs.size) { s with heap := h'.push { cls := .type "function", data := .func (lamFd t clos pm cv ctv dV) }, toks := tk }) :
    wpAny M A (makeTail "<lambda>" t.q t.params (.expr t.body) t.scope env dV .none none pos firstLine) Q E s := by
  obtain ⟨bm, ob, hbm, hne0, hneG, hneP, hbo, hcls, hdict, hdata⟩ := hb
  unfold makeTail
  rw [hcl, hge0]
  refine wpAny_bind (wpAny_pure ?_)
  cases clos with
  | nil =>
    simp only [List.isEmpty_nil, if_true]
    refine wpAny_bind (wpAny_pure (wpAny_bind (wpAny_functionCode_hit hcode (C.code hP ht) hf ?_)))
    refine wpAny_bind (wpAny_builtinsFor hg hbm hne0 hbo hcls hdict hdata (wpAny_bind (wpAny_nsGet hg ?_)))
    exact wpAny_bind (wpAny_pure (wpAny_newObj_type (h _ .none s.heap s.toks (fun _ _ e => e)) (by size_fits)))
  | cons q r =>
    simp only [List.isEmpty_cons, Bool.false_eq_true, if_false]
    have kp : ∀ (u : Obj) b o, s.heap.get? b = some o → (s.heap.push u).get? b = some o := fun u b o e => Heap.get?_push_of_some _ e
    refine wpAny_bind (wpAny_newTextTuple (wpAny_bind (wpAny_functionCode_hit hcode ((C.keeps (kp _)).code (kp _ _ _ hP) ht) hf ?_)))
    refine wpAny_bind (wpAny_builtinsFor (hg.push _) hbm hne0 (kp _ _ _ hbo) hcls hdict hdata (wpAny_bind (wpAny_nsGet (hg.push _) ?_)))
    exact wpAny_bind (wpAny_pure (wpAny_newObj_type (h _ _ _ s.toks (kp _)) (by size_fits)))
end
theorem deflt_none {t : LamT} {X : Cx} (h : defaultsOf t.params X.env = ([], [])) {M : Model} {A : Around} {E : Value → Shared → Prop} {s : Shared} {pos : Pos} {Q : Value → Shared → Prop}
    (q : wpAny M A (makeTail "<lambda>" (X.env.qual ++ "<lambda>") t.params (.expr t.body) t.scope X.env .none .none none pos pos.line) Q E s) : wpAny M A (eval (.Lambda t.params t.body t.scope pos) X.env) Q E s := by
  refine PySem.W.kla_eval h ?_
  rw [makeFunction_eq]
  simp only [List.zip_nil_right, List.filterMap_nil, List.isEmpty_nil, if_true, pure_bind]
  exact q
theorem deflt_one {t : LamT} {X : Cx} {i : Int} {j : Nat} {pc : Pos} (h : defaultsOf t.params X.env = ([eval (.Constant (.int i) j pc) X.env], [])) {M : Model} {A : Around} {E : Value → Shared → Prop} {s : Shared} {pos : Pos} {Q : Value → Shared → Prop}
    (q : wpAny M A (eval (.Constant (.int i) j pc) X.env) (fun v s1 => wpAny M A (makeTail "<lambda>" (X.env.qual ++ "<lambda>") t.params (.expr t.body) t.scope X.env (.ref s1.heap.objs.size) .none none pos pos.line) Q E { s1 with heap := s1.heap.push { cls := .type "tuple", data := .seq [v].toArray } }) E s) :
    wpAny M A (eval (.Lambda t.params t.body t.scope pos) X.env) Q E s := by
  rw [arm_eval_Lambda, h]
  show wpAny M A (do let dv ← evalAll [eval (.Constant (.int i) j pc) X.env]; let kdv ← holding dv (evalAllOpt []); makeFunction "<lambda>" (X.env.qual ++ "<lambda>") t.params (.expr t.body) t.scope X.env dv kdv [] pos pos.line) Q E s
  refine wpAny_bind (wpAny_bind (wpAny_mono q (fun v s1 q1 => wpAny_bind (wpAny_holding (wpAny_pure (wpAny_pure (wpAny_bind (wpAny_holding (wpAny_pure ?_))))))) fun _ _ z => z))
  rw [makeFunction_eq]
  simp only [List.zip_nil_right, List.filterMap_nil, List.isEmpty_nil, List.isEmpty_cons, Bool.false_eq_true, if_true, if_false, pure_bind]
  exact wpAny_bind (wpAny_newTextTuple q1)
/-- behind a lambda's making -/
structure NewLam (B H H1 : Hp) (P : Addr) (t : LamT) (cl : List (Str × Addr)) (f c' : Addr) (dV : Value) : Prop where
  ext : ∀ b o, H b = some o → b ≠ P → H1 b = some o
  fn : H f = none
  ne : f ≠ c'
  ff : H1 f = some (LamO f c' t cl dV)
  cn : H c' = none ∨ B c' = some (LamX.CodeO c' t.q)
  cc : H1 c' = some (LamX.CodeO c' t.q)
  tab : ∃ ps : Array Value, H1 P = some (.tbl ps) ∧ TriplesOk ps.toList ∧ ∀ (pos : Pos) (cv : Value), codeAmong pos ps.toList = some cv → ∃ c, cv = .ref c ∧ (B c = some (LamX.CodeO c t.q) ∨ c = c')
theorem lamO_ok {Pr : Program} {w : World} {H : Hp} {h : Heap} {f c' : Addr} {t : LamT} {cl : List (Str × Addr)} {pm ctv dV : Value} (e : h.get? f = some { cls := .type "function", data := .func (lamFd t cl pm (.ref c') ctv dV) }) : ObjOk Pr w H h f (LamO f c' t cl dV) :=
  ⟨⟨pm, ctv, e⟩, ⟨_, e⟩, fun h1 h2 ⟨pm, ctv, z⟩ k => ⟨pm, ctv, k _ z⟩⟩
theorem codeO_ext {c : Addr} {q : Str} (ps : Array Value) : LamX.CodeO c q ≠ .tbl ps := LamX.codeO_ne ps
section
variable {X : Cx} {pins : List (Addr × Obj)} {σ : L2.St} {B H : Hp} {s : Shared} {c P : Addr} {t : LamT} {dV : Value} {pos : Pos} {firstLine : Nat} {E : Value → Shared → Prop} {Q : Value → Shared → Prop} {A : Around}
theorem lam_tail (I : Inv X pins σ H s) (TB : LamX.TabB X.base X.mg c P) (hcode : X.env.code = .ref c) (hq : t.q = X.env.qual ++ "<lambda>") (hT : TabB' B H P t.q) (hB : Ex B H) (hfree : ∀ y ∈ t.scope.names, y.2 = .free → ∃ c, X.env.cells.lookup y.1 = some c)
    (h : ∀ f c' H1 s', Inv X pins σ H1 s' → NewLam B H H1 P t (cloFrom X.env.cells t.scope.names []) f c' dV → Q (.ref f) s') :
    wpAny (model X.prog X.w) A (makeTail "<lambda>" (X.env.qual ++ "<lambda>") t.params (.expr t.body) t.scope X.env dV .none none pos firstLine) Q E s := by
  obtain ⟨ps, hP, ht, ha⟩ := hT
  have bP : s.heap.BuiltinsAt X.mg P := TB.bm.keeps I.bk
  have hP' : s.heap.get? P = some { cls := .none, data := .fields ps } := I.hok P _ hP
  rw [← hq]
  cases hc : codeAmong pos ps.toList with
  | none =>
    refine tail_new (mg := X.mg) (c := c) (P := P) (ps := ps) (closure_ok hfree) I.ok.glob (I.mod.glob.keeps I.bk) hcode (TB.code.keeps I.bk) hP' ht hc TB.gP bP fun c' pm ctv h' tk hx hge hlt hrec htb => ?_
    obtain ⟨c2, oc, vs, tt, e2, hoc, hd, hv⟩ := hrec
    cases e2
    have nC : H c' = none := I.hok.fresh hge
    have hsz : s.heap.objs.size ≤ h'.objs.size := Nat.le_trans hge (Nat.le_of_lt hlt)
    have nF : H h'.objs.size = none := I.hok.fresh hsz
    have nPc : P ≠ c' := ne_of_none hP nC
    have nfP : h'.objs.size ≠ P := Nat.ne_of_gt (Nat.lt_of_lt_of_le (Heap.lt_size hP') hsz)
    have nfC : h'.objs.size ≠ c' := Nat.ne_of_gt hlt
    have I1 := LamX.inv_table (q := t.q) (t' := tk) (more := #[rawInt pos.line, rawInt pos.col, .ref c']) (h' := h') I hP (fun b o hb e => hx b o hb e) htb hge ⟨oc, vs, tt, hoc, hd, hv⟩
    have I2 : Inv X pins σ (upd (upd (upd H P (.tbl (ps ++ #[rawInt pos.line, rawInt pos.col, .ref c']))) c' (LamX.CodeO c' t.q)) h'.objs.size (LamO h'.objs.size c' t (cloFrom X.env.cells t.scope.names []) dV)) { s with heap := h'.push { cls := .type "function", data := .func (lamFd t (cloFrom X.env.cells t.scope.names []) pm (.ref c') ctv dV) }, toks := tk } :=
      I1.laid (t' := tk) (a := h'.objs.size) (h' := h'.push { cls := .type "function", data := .func (lamFd t (cloFrom X.env.cells t.scope.names []) pm (.ref c') ctv dV) }) (fun b o e => Heap.get?_push_of_some _ e) (Nat.le_refl _) (lamO_ok (Heap.get?_push_size _ rfl))
    have eL : (ps ++ #[rawInt pos.line, rawInt pos.col, Value.ref c']).toList = ps.toList ++ [rawInt pos.line, rawInt pos.col, .ref c'] := by simp
    refine h _ c' _ _ I2 ⟨fun b o e hb => ?_, nF, nfC, upd_same, .inl nC, ?_, _, ?_, by rw [eL]; exact PySem.TriplesOk_snoc _ _ _ _ ht, fun p' cv hcv => ?_⟩
    · rw [upd_ne (ne_of_none e nF), upd_ne (ne_of_none e nC), upd_ne hb]
      exact e
    · rw [upd_ne (Ne.symm nfC), upd_same]
    · rw [upd_ne (Ne.symm nfP), upd_ne nPc, upd_same]
    · rw [eL] at hcv
      rcases LamX.among_app _ ht hcv with z | z
      · obtain ⟨c0, e1, e2⟩ := ha p' cv z
        exact ⟨c0, e1, .inl e2⟩
      · exact ⟨c', z, .inr rfl⟩
  | some cv =>
    obtain ⟨c', e, hco⟩ := ha pos cv hc
    subst e
    refine tail_hit (mg := X.mg) (c := c) (P := P) (ps := ps) (closure_ok hfree) I.ok.glob (I.mod.glob.keeps I.bk) hcode (TB.code.keeps I.bk) hP' ht hc bP fun pm ctv h' tk hx => ?_
    have I1 : Inv X pins σ H { s with heap := h', toks := tk } := I.kept hx
    have nF : H h'.objs.size = none := I1.hok.fresh (Nat.le_refl _)
    have I2 : Inv X pins σ (upd H h'.objs.size (LamO h'.objs.size c' t (cloFrom X.env.cells t.scope.names []) dV)) { s with heap := h'.push { cls := .type "function", data := .func (lamFd t (cloFrom X.env.cells t.scope.names []) pm (.ref c') ctv dV) }, toks := tk } :=
      I1.laid (t' := tk) (a := h'.objs.size) (h' := h'.push { cls := .type "function", data := .func (lamFd t (cloFrom X.env.cells t.scope.names []) pm (.ref c') ctv dV) }) (fun b o e => Heap.get?_push_of_some _ e) (Nat.le_refl _) (lamO_ok (Heap.get?_push_size _ rfl))
    have hcc := hB _ _ hco
    exact h _ c' _ _ I2 ⟨fun b o e hb => by rw [upd_ne (ne_of_none e nF)]; exact e, nF, Ne.symm (ne_of_none hcc nF), upd_same, .inr hco, by rw [upd_ne (ne_of_none hcc nF)]; exact hcc, ps, by rw [upd_ne (ne_of_none hP nF)]; exact hP, ht, fun p' cv hcv => let ⟨c0, e1, e2⟩ := ha p' cv hcv; ⟨c0, e1, .inl e2⟩⟩
/-- the defaults, as they lie -/
def DflAt (H Ha : Hp) (t : LamT) (dV : Value) : Prop := (Ha = H ∧ t.dfl = [] ∧ dV = .none) ∨ ∃ p, H p = none ∧ Ha = upd H p (.tup (t.dfl.map V.int)) ∧ t.dfl ≠ [] ∧ dV = .ref p
theorem lam_mk (I : Inv X pins σ H s) (TB : LamX.TabB X.base X.mg c P) (hcode : X.env.code = .ref c) (hq : t.q = X.env.qual ++ "<lambda>") (hT : TabB' B H P t.q) (hB : Ex B H) (hfree : ∀ y ∈ t.scope.names, y.2 = .free → ∃ c, X.env.cells.lookup y.1 = some c)
    (hdef : (t.dfl = [] ∧ defaultsOf t.params X.env = ([], [])) ∨ ∃ i j pc, t.dfl = [i] ∧ defaultsOf t.params X.env = ([eval (.Constant (.int i) j pc) X.env], []))
    (h : ∀ f c' dV Ha H1 s', Inv X pins σ H1 s' → DflAt H Ha t dV → NewLam B Ha H1 P t (cloFrom X.env.cells t.scope.names []) f c' dV → Q (.ref f) s') :
    wpAny (model X.prog X.w) X.A (eval (.Lambda t.params t.body t.scope pos) X.env) Q X.xe s := by
  rcases hdef with ⟨e1, e2⟩ | ⟨i, j, pc, e1, e2⟩
  · exact deflt_none e2 (lam_tail I TB hcode hq hT hB hfree fun f c' H1 s' I1 n => h f c' _ H H1 s' I1 (.inl ⟨rfl, e1, rfl⟩) n)
  · refine deflt_one e2 (thn ((pe_int (X := X) (i := i) (j := j) (pos := pc)).run pins s σ H (fun v H' => v = .int i ∧ H' = H) I ⟨rfl, rfl⟩) fun u s1 ⟨v, H', I1, rv, ev, eH⟩ => ?_)
    subst ev eH
    have hp : H' s1.heap.objs.size = none := I1.hok.fresh (Nat.le_refl _)
    have I2 : Inv X pins σ (upd H' s1.heap.objs.size (.tup [.int i])) { s1 with heap := s1.heap.push { cls := .type "tuple", data := .seq [u].toArray } } :=
      I1.laid (t' := s1.toks) (a := s1.heap.objs.size) (fun b o e => Heap.get?_push_of_some _ e) (Nat.le_refl _) ⟨by show 1 ≤ sizeLine; rw [sizeLine_eq]; decide, [u], .cons rv .nil, IsTup.new s1.heap _⟩
    obtain ⟨ps, hP, ht, ha⟩ := hT
    refine lam_tail (dV := .ref s1.heap.objs.size) I2 TB hcode hq ⟨ps, by rw [upd_ne (ne_of_none hP hp)]; exact hP, ht, ha⟩ (fun b o e => by rw [upd_ne (ne_of_none (hB b o e) hp)]; exact hB b o e) hfree fun f c' H1 s' I3 n => ?_
    refine h f c' _ (upd H' s1.heap.objs.size (.tup [.int i])) H1 s' I3 (.inr ⟨_, hp, by rw [e1]; rfl, by rw [e1]; exact List.cons_ne_nil _ _, rfl⟩) n
end
end G

/-! GLam2: a lambda as a value. -/
namespace G
open PySem PySem.Spec L2 PyProof.Rows
open Evl (Ex)
theorem lamO_ext {f c : Addr} {t : LamT} {cl : List (Str × Addr)} {dV : Value} (ps : Array Value) : LamO f c t cl dV ≠ .tbl ps := fun z => by
  have z' : HO.ext _ = HO.tbl ps := z
  cases z'
section
variable {K : PySem.W.Frag} {wd : Wd} {F H H1 : Hp} {cs : Cs} {P : Addr} {t : LamT} {cl : List (Str × Addr)} {f c' : Addr} {dV : Value}
def growB (B : Hp) (f c' : Addr) (t : LamT) (cl : List (Str × Addr)) (dV : Value) : Hp := fun b => if b = f then some (LamO f c' t cl dV) else if b = c' then some (LamX.CodeO c' t.q) else B b
theorem Rl.grow {B : Hp} (R : Rl K wd F cs H) (hBB : Ex B wd.B) (n : NewLam B H H1 P t cl f c' dV) (hP : (P, t.q) ∈ tabsOf K) (hu : ∀ p ∈ tabsOf K, p.1 = P → p.2 = t.q) :
    ∃ wd', wd.le wd' ∧ Rl K wd' F cs H1 ∧ wd'.B f = some (LamO f c' t cl dV) ∧ wd'.B c' = some (LamX.CodeO c' t.q) := by
  obtain ⟨ps0, hP0, _, _⟩ := R.tab _ hP
  have cn : H c' = none ∨ wd.B c' = some (LamX.CodeO c' t.q) := n.cn.imp id fun e => hBB _ _ e
  have fc : f ≠ c' := n.ne
  have ex : Ex wd.B (growB wd.B f c' t cl dV) := fun b o e => by
    unfold growB
    have hb : b ≠ f := ne_of_none (R.b b o e) n.fn
    rw [if_neg hb]
    by_cases hc : b = c'
    · rw [if_pos hc]
      subst hc
      rcases cn with e1 | e1
      · have e2 := R.b _ _ e
        rw [e1] at e2
        cases e2
      · rw [e1] at e
        exact e
    · rw [if_neg hc]
      exact e
  have le : wd.le ⟨growB wd.B f c' t cl dV, wd.r, wd.k⟩ := ⟨ex, fun _ _ h => h⟩
  have bf : growB wd.B f c' t cl dV f = some (LamO f c' t cl dV) := if_pos rfl
  have bc : growB wd.B f c' t cl dV c' = some (LamX.CodeO c' t.q) := (if_neg (Ne.symm fc)).trans (if_pos rfl)
  have inv : ∀ b o, growB wd.B f c' t cl dV b = some o → (b = f ∧ o = LamO f c' t cl dV) ∨ (b = c' ∧ o = LamX.CodeO c' t.q) ∨ wd.B b = some o := fun b o e => by
    unfold growB at e
    by_cases h1 : b = f
    · rw [if_pos h1] at e
      exact .inl ⟨h1, (Option.some.inj e).symm⟩
    · rw [if_neg h1] at e
      by_cases h2 : b = c'
      · rw [if_pos h2] at e
        exact .inr (.inl ⟨h2, (Option.some.inj e).symm⟩)
      · rw [if_neg h2] at e
        exact .inr (.inr e)
  have ext : ∀ b o, H b = some o → (∀ q, o ≠ .tbl q) → H1 b = some o := fun b o e nt => n.ext b o e (R.notbl hP0 e nt)
  refine ⟨_, le, ⟨?_, ?_, ?_, R.inj, ?_, ?_, R.top, R.rf, R.fe, ?_, ?_⟩, bf, bc⟩
  · intro b o e
    rcases inv b o e with ⟨h1, h2⟩ | ⟨h1, h2⟩ | h
    · rw [h1, h2]; exact n.ff
    · rw [h1, h2]; exact n.cc
    · exact ext b o (R.b b o h) fun q z => R.bt b q (by rw [h, z])
  · intro b o e
    obtain ⟨xs, ex⟩ := R.fe b o e
    exact ext b o (R.f b o e) fun q z => by rw [ex] at z; cases z
  · intro b o e
    rcases inv b o e with ⟨h1, h2⟩ | ⟨h1, h2⟩ | h
    · rw [h1]; exact Evl.fresh_back R.f n.fn
    · rw [h1]
      rcases cn with e1 | e1
      · exact Evl.fresh_back R.f e1
      · exact R.bf _ _ e1
    · exact R.bf b o h
  · intro m o e
    obtain ⟨a, u, e1, e2, e3, e4, e5⟩ := R.cell m o e
    refine ⟨a, u, e1, ?_, e3, ext a u e4 e5.notbl, e5.mono le⟩
    show growB wd.B f c' t cl dV a = none
    unfold growB
    rw [if_neg (ne_of_none e4 n.fn)]
    have hc : a ≠ c' := fun z => by
      subst z
      rcases cn with q | q
      · rw [q] at e4; cases e4
      · rw [q] at e2; cases e2
    rw [if_neg hc]
    exact e2
  · intro m a e
    obtain ⟨o, ho, hn⟩ := R.ran m a e
    exact ⟨o, ext a o ho hn, hn⟩
  · intro p hp
    by_cases h : p.1 = P
    · obtain ⟨ps, h1, h2, h3⟩ := n.tab
      rw [hu p hp h, h]
      refine ⟨ps, h1, h2, fun pos cv hc => ?_⟩
      obtain ⟨c2, e1, e2⟩ := h3 pos cv hc
      rcases e2 with e2 | e2
      · exact ⟨c2, e1, ex _ _ (hBB _ _ e2)⟩
      · exact ⟨c2, e1, by rw [e2]; exact bc⟩
    · obtain ⟨ps, h1, h2, h3⟩ := R.tab p hp
      exact ⟨ps, n.ext _ _ h1 h, h2, fun pos cv hc => let ⟨c2, e1, e2⟩ := h3 pos cv hc; ⟨c2, e1, ex _ _ e2⟩⟩
  · intro b q e
    rcases inv b _ e with ⟨h1, h2⟩ | ⟨h1, h2⟩ | h
    · exact lamO_ext q h2.symm
    · exact codeO_ext q h2.symm
    · exact R.bt b q h
end
/-- what the context knows of its own lambdas' table -/
structure LamC (X : Cx) (q : Str) : Prop where
  ex : ∃ c P, LamX.TabB X.base X.mg c P ∧ X.env.code = .ref c ∧ (P, q) ∈ tabsOf X.K ∧ ∀ p ∈ tabsOf X.K, p.1 = P → p.2 = q
  qn : q = X.env.qual ++ "<lambda>"
def tLamV (K : PySem.W.Frag) (t : LamT) (P : Addr) (cells : List (Str × Addr)) : TE := fun σ H Q => ∃ B, Ex B H ∧ TabB' B H P t.q ∧ ∀ f c' dV Ha H1, DflAt H Ha t dV → NewLam B Ha H1 P t (cloFrom cells t.scope.names []) f c' dV → Q (.ref f) H1
section
variable {X : Cx} {W : WX} {t : LamT} {pos : Pos}
theorem j_lam (j : Nat) (L : LamC X t.q) (hfree : X.Ok → ∀ y ∈ t.scope.names, y.2 = .free → ∃ c, X.env.cells.lookup y.1 = some c)
    (hdef : (t.dfl = [] ∧ defaultsOf t.params X.env = ([], [])) ∨ ∃ i j pc, t.dfl = [i] ∧ defaultsOf t.params X.env = ([eval (.Constant (.int i) j pc) X.env], [])) : JE X W (.Lambda t.params t.body t.scope pos) (.c (.clo j t X.env.cells)) := by
  obtain ⟨c, P, TB, hcode, hP, hu⟩ := L.ex
  refine ⟨tLamV X.K t P X.env.cells, ⟨fun pins s σ H Q I ⟨B, hB, hT, h⟩ => ?_⟩, fun wd F τ cs σ H PP PX Q R rs h q x => ?_⟩
  · exact lam_mk I TB hcode L.qn hT hB (hfree I.ok) hdef fun f c' dV Ha H1 s' I1 e1 n => ⟨.ref f, H1, I1, rfl, h f c' dV Ha H1 e1 n⟩
  · have h : PP (.clo j t X.env.cells) cs := h
    refine ⟨wd.B, R.b, R.tab _ hP, fun f c' dV Ha H1 e1 n => ?_⟩
    rcases e1 with ⟨e1, e2, e3⟩ | ⟨p, hp, e1, e2, e3⟩
    · subst e1
      obtain ⟨wd', le, R', b1, b2⟩ := R.grow (Ex.refl _) n hP hu
      exact q wd' (.clo j t X.env.cells) cs _ _ le R' ⟨f, c', dV, rfl, b1, b2, .inl ⟨e2, e3⟩⟩ h
    · subst e1
      obtain ⟨R1, l1⟩ := R.new hp (.tup (t.dfl.map V.int))
      obtain ⟨wd', le, R', b1, b2⟩ := R1.grow l1.B n hP hu
      exact q wd' (.clo j t X.env.cells) cs _ _ (l1.trans le) R' ⟨f, c', dV, rfl, b1, b2, .inr ⟨e2, p, e3, le.B _ _ upd_same⟩⟩ h
end
end G

/-! GLam3: a lambda called. -/
namespace G
open PySem PySem.Spec L2 PyProof.Rows
open Evl (Ex)
/-- the lambda's names: captured ones, globals, a parameter that no slot bears -/
structure LamN (N : List Str) (sc scope : Scope) : Prop where
  kind : scope.kind = .function
  co : scope.isCoroutine = false
  gen : scope.isGenerator = false
  own : ∀ y ∈ scope.names, y.2 ≠ .cell ∧ (y.2 = .local → y.1 ∉ N)
  free : ∀ y ∈ scope.names, y.2 = .free → sc.names.lookup y.1 = some .cell ∨ sc.names.lookup y.1 = some .free
def lamNB (N : List Str) (sc scope : Scope) : Bool :=
  decide (scope.kind = .function) && (!scope.isCoroutine && (!scope.isGenerator && scope.names.all fun y => !decide (y.2 = .cell) && ((!decide (y.2 = .local) || !decide (y.1 ∈ N)) && (!decide (y.2 = .free) || (decide (sc.names.lookup y.1 = some .cell) || decide (sc.names.lookup y.1 = some .free))))))
theorem lamN_by {N : List Str} {sc scope : Scope} (h : lamNB N sc scope = true) : LamN N sc scope := by
  unfold lamNB at h
  simp only [Bool.and_eq_true, Bool.or_eq_true, Bool.not_eq_true', decide_eq_true_eq, decide_eq_false_iff_not, List.all_eq_true] at h
  obtain ⟨h1, h2, h3, h4⟩ := h
  refine ⟨h1, h2, h3, fun y hy => ⟨(h4 y hy).1, fun e => ?_⟩, fun y hy e => ?_⟩
  · rcases (h4 y hy).2.1 with z | z
    · exact absurd e z
    · exact z
  · rcases (h4 y hy).2.2 with z | z
    · exact absurd e z
    · exact z
theorem LamN.has {X : Cx} {scope : Scope} (L : LamN X.N X.env.scope scope) (ok : X.Ok) : ∀ y ∈ scope.names, y.2 = .free → ∃ c, X.env.cells.lookup y.1 = some c := fun y hy e => by
  rcases L.free y hy e with k | k
  · exact ok.has _ (.inl k)
  · exact ok.has _ (.inr k)
/-- the context of a lambda's body, entered at s from the frames outer -/
def lamX (X : Cx) (A : Around) (outer : List Env) (s : Shared) (H : Hp) (E : XK) (scope : Scope) (f c' : Addr) : Cx where
  prog := X.prog
  w := X.w
  K := X.K
  mg := X.mg
  base := X.base
  A := A.deeper (LamX.lamEnv X scope s.heap.objs.size f c')
  N := X.N
  s_0 := s
  H_0 := H
  env := LamX.lamEnv X scope s.heap.objs.size f c'
  outer := outer
  stack := LamX.lamEnv X scope s.heap.objs.size f c' :: outer
  ex := []
  fn := fun _ => false
  calm := true
  pn := []
  xe := fun e s' => wpAny (model X.prog X.w) (A.deeper (LamX.lamEnv X scope s.heap.objs.size f c')) (leaving (LamX.lamEnv X scope s.heap.objs.size f c') e) (fun _ s'' => L2N.CX X.prog X.w outer H s E e s'') (fun e' s'' => L2N.CX X.prog X.w outer H s E e' s'') s'
section
variable {X : Cx} {pins : List (Addr × Obj)} {σ : L2.St} {H HZ : Hp} {s s1 : Shared}
theorem lam_enter {A : Around} {outer : List Env} {E : XK} {scope : Scope} {f c' : Addr} {h₁ : Heap} {tk : Nat} {m : Str → Option Value} (I : Inv X pins σ H s) (L : LamN X.N X.env.scope scope) (e0 : Env0 X.prog X.w X.K X.mg X.base A outer s1 HZ) (hd : A.handled = none)
    {ex : List Addr} (un : Un (frs X.stack) ex H HZ s.heap s1.heap) (hex : ∀ y c, X.env.cells.lookup y = some c → c ∉ ex) (hns : h₁.Ns s1.heap.objs.size m) (kp : ∀ b o, s1.heap.get? b = some o → h₁.get? b = some o) :
    Inv (lamX X A outer s1 HZ E scope f c') [] σ HZ { s1 with heap := h₁, toks := tk } := by
  have hfree := L.has I.ok
  have cm : ∀ {y c}, (cloFrom X.env.cells scope.names []).lookup y = some c → X.env.cells.lookup y = some c := fun {y c} e => by
    rcases cloFrom_mem (PySem.mem_of_lookup e) with hm | ⟨h1, h2⟩
    · cases hm
    · obtain ⟨c1, hc⟩ := hfree _ h1 rfl
      have hc : X.env.cells.lookup y = some c1 := hc
      have e2 : c = c1 := by rw [h2, hc] <;> rfl
      rw [e2]
      exact hc
  have look : ∀ {y}, scope.names.lookup y = some .free → ∃ c, (cloFrom X.env.cells scope.names []).lookup y = some c := fun {y} hl =>
    mem_lookup (cloFrom_has (cells := X.env.cells) (acc := []) (PySem.mem_of_lookup hl))
  have cellK : ∀ {c : Addr} {v : Option Value}, c ∉ ex → H c = none → s.heap.IsCell c v → h₁.IsCell c v := fun {c v} nx n ⟨o, ho, hd⟩ => by
    obtain ⟨sl, q⟩ := un.any ho n nx
    exact ⟨_, kp _ _ q, hd⟩
  have noA : ∀ b : Addr, b ∉ (lamX X A outer s1 HZ E scope f c').ex := fun b z => absurd (show b ∈ ([] : List Addr) from z) (by simp)
  have okL : (lamX X A outer s1 HZ E scope f c').Ok := by
    constructor
    · exact e0.mod
    · exact L.kind
    · rfl
    · rfl
    · exact Nat.le_refl _
    · exact fun y z c e1 e2 => I.ok.inj y z c (cm e1) (cm e2)
    · intro y hy
      have hy : scope.names.lookup y = some .cell ∨ scope.names.lookup y = some .free := hy
      rcases hy with hy | hy
      · exact absurd rfl (L.own _ (PySem.mem_of_lookup hy)).1
      · exact look hy
    · intro y c z _
      have z : false = true := z
      cases z
    · exact fun _ => hd
    · exact Around.frames_deeper e0.frames
    · exact .inr ⟨rfl, rfl⟩
    · exact fun b z => absurd z (noA b)
    · exact e0.bs
    · exact e0.bsz
    · exact fun b _ _ => noA b
    · exact fun b z => absurd z (noA b)
    · exact e0.funs
    · exact e0.frf
  refine ⟨okL, rfl, e0.bare, Un.kept kp, ⟨_, hns, fun i y v e1 e2 e3 => ?_⟩, fun y c e => ?_, e0.hok.fresh (Nat.le_refl _), fun y c e => ?_, fun q hq => absurd (show q ∈ ([] : List (Addr × Obj)) ++ [] from hq) (by simp), e0.hok.kept kp, I.len⟩
  · have e3 : Vis scope y := e3
    rcases e3 with k | k | k
    · exact absurd (List.mem_of_getElem? e1) ((L.own _ (PySem.mem_of_lookup k)).2 rfl)
    · exact absurd rfl (L.own _ (PySem.mem_of_lookup k)).1
    · obtain ⟨m, hn, hl⟩ := I.loc
      have hvis : Vis X.env.scope y := (L.free _ (PySem.mem_of_lookup k) rfl).elim (fun k => .inr (.inl k)) (fun k => .inr (.inr k))
      obtain ⟨w', r, q⟩ := hl i y v e1 e2 hvis
      obtain ⟨c2, h2⟩ := look k
      refine ⟨w', r, .inr ⟨.inr k, c2, h2, ?_⟩⟩
      have c1 := cm h2
      rcases q with ⟨k', _⟩ | ⟨_, c3, e', z⟩
      · have k' : X.env.scope.names.lookup y = some .local := k'
        rcases L.free _ (PySem.mem_of_lookup k) rfl with k2 | k2 <;> rw [show X.env.scope.names.lookup y = _ from k2] at k' <;> cases k'
      · rw [c1] at e'
        cases e'
        exact cellK (hex y _ c1) (I.freeC y _ c1) z
  · obtain ⟨w', z⟩ := I.cell y c (cm e)
    exact ⟨w', cellK (hex y c (cm e)) (I.freeC y c (cm e)) z⟩
  · obtain ⟨v, o, ho, hd⟩ := I.cell y c (cm e)
    exact un.free c o ho (I.freeC y c (cm e)) (hex y c (cm e))
end
/-- how the lambda's call binds -/
def LamBind (t : LamT) : Prop := (t.dfl = [] ∧ ∀ cl pm cv ctv, bindArgs (lamFd t cl pm cv ctv .none) ⟨[], []⟩ = pure []) ∨
  ∃ i a, t.dfl = [i] ∧ t.scope.names.lookup a = some .local ∧ ∀ cl pm cv ctv p, ∃ k, bindArgs (lamFd t cl pm cv ctv (.ref p)) ⟨[], []⟩ = seqItems? (.ref p) >>= k ∧ ∀ v, k (some #[v]) = pure [(a, v)]
/-- the lambda at f, as it lies -/
def LamAt (H : Hp) (t : LamT) (cl : List (Str × Addr)) (f : Addr) : Prop := ∃ (c : Addr) (dV : Value), H f = some (LamO f c t cl dV) ∧ H c = some (LamX.CodeO c t.q) ∧ ((t.dfl = [] ∧ dV = .none) ∨ (t.dfl ≠ [] ∧ ∃ p, dV = .ref p ∧ H p = some (.tup (t.dfl.map V.int))))
/-- f may be called without arguments at any state behind (s, H): tl its reading there -/
def LamRun (P : Program) (w : World) (K : PySem.W.Frag) (mg : Str → Option Value) (base : Heap) (k : Nat) (fs : List Addr) (f : Addr) (s : Shared) (H : Hp) (tl : XK → Hp → VK → Prop) : Prop :=
  ∀ (A : Around) (stk : List Env) (s1 : Shared) (H1 : Hp) (Q : VK) (E : XK), Room (k + 1) A → Env0 P w K mg base A stk s1 H1 → Un fs [] H H1 s.heap s1.heap → tl E H1 Q → codeAny (model P w) A (.call (.ref f) ⟨[], []⟩) (CR (L2N.CX P w) stk P w H1 s1 Q E) s1
section
variable {X : Cx} {pins : List (Addr × Obj)} {σ : L2.St} {H : Hp} {s : Shared} {t : LamT} {k : Nat} {te : XK → TE}
theorem lam_runX {ex : List Addr} (hex : ∀ y c, X.env.cells.lookup y = some c → c ∉ ex) (I : Inv X pins σ H s) (L : LamN X.N X.env.scope t.scope) (hb : LamBind t) (hq : t.q = X.env.qual ++ "<lambda>")
    (hbody : ∀ (A : Around) (outer : List Env) (s : Shared) (H : Hp) (E : XK) (f c' : Addr), Room k (A.deeper (LamX.lamEnv X t.scope s.heap.objs.size f c')) → A.handled = none → PE (lamX X A outer s H E t.scope f c') t.body (te E)) (f : Addr) :
    ∀ (A : Around) (stk : List Env) (s1 : Shared) (H1 : Hp) (Q : VK) (E : XK), Room (k + 1) A → Env0 X.prog X.w X.K X.mg X.base A stk s1 H1 → Un (frs X.stack) ex H H1 s.heap s1.heap → (LamAt H1 t (cloFrom X.env.cells t.scope.names []) f ∧ te E σ H1 Q) → codeAny (model X.prog X.w) A (.call (.ref f) ⟨[], []⟩) (CR (L2N.CX X.prog X.w) stk X.prog X.w H1 s1 Q E) s1 := by
  intro A stk s1 H1 Q E hr e0 un ⟨⟨c', dV, hf, hc, hdv⟩, hte⟩
  obtain ⟨⟨pm, ctv, of1⟩, _, _⟩ := e0.hok f _ hf
  obtain ⟨⟨oc, vs, tt, hoc, hdc, hvc⟩, _, _⟩ := e0.hok c' _ hc
  have KX : X.K.In s1.heap := e0.mod.kin.keeps fun b o e => (e0.bs b o e).1
  have lim : s1.heap.NoLimit := e0.mod.nolimit.keeps fun b o e => (e0.bs b o e).1
  refine PySem.W.kla_callFunE hr.depth of1 rfl L.co L.gen rfl ⟨c', oc, vs, tt, rfl, hoc, hdc, hvc⟩ ?_
  have go : ∀ binds : List (Str × Value), (∀ x ∈ binds, t.scope.names.lookup x.1 = some .local) →
      wpAny (model X.prog X.w) A.in1 (newFunctionEnv t.scope mainGlobals (cloFrom X.env.cells t.scope.names []) binds (t.q ++ ".<locals>.") (some f) (.ref c') none builtinsNs)
        (fun env s₂ => s₂.heap.NoLimit ∧ codeAny (model X.prog X.w) A (.expr t.body env) (CR (L2N.CX X.prog X.w) stk X.prog X.w H1 s1 Q E) s₂) (fun e s' => CR (L2N.CX X.prog X.w) stk X.prog X.w H1 s1 Q E (.error e) s') s1 := by
    intro binds hl
    refine wpAny_newFunctionEnv (fun y hy => (L.own y hy).1) hl (fun h₁ hns hsb => ⟨lim.fresh _ hsb, ?_⟩) L.kind
    rw [hq]
    show codeAny _ _ (.expr t.body (LamX.lamEnv X t.scope s1.heap.objs.size f c')) _ _
    have kp : ∀ b o, s1.heap.get? b = some o → h₁.get? b = some o := fun b o e => hsb.extBut b o (Nat.ne_of_lt (Heap.lt_size e)) (Heap.get?_push_of_some _ e)
    have J := lam_enter (A := A) (outer := stk) (E := E) (f := f) (c' := c') (tk := s1.toks + binds.length) I L e0 hr.hd un hex hns kp
    refine PySem.W.kla_codeExpr (wpAny_mono ((hbody A stk s1 H1 E f c' (hr.deeper _) hr.hd).run [] _ σ H1 Q J hte) (fun v s' hq => ?_) fun e s' hq => hq)
    obtain ⟨w', H', J', rv, q⟩ := hq
    exact ⟨w', H', J'.os, J'.bare, J'.base, J'.hok, rv, q⟩
  rcases hb with ⟨d1, hb⟩ | ⟨i, a, d1, ha, hb⟩
  · have e : dV = .none := by
      rcases hdv with ⟨_, e⟩ | ⟨z, _⟩
      · exact e
      · exact absurd d1 z
    subst e
    rw [hb]
    exact wpAny_pure (go [] fun x hx => absurd hx (by simp))
  · obtain ⟨p, e, hp⟩ : ∃ p, dV = .ref p ∧ H1 p = some (.tup (t.dfl.map V.int)) := by
      rcases hdv with ⟨z, _⟩ | ⟨_, z⟩
      · rw [d1] at z
        cases z
      · exact z
    subst e
    obtain ⟨k', e1, e2⟩ := hb (cloFrom X.env.cells t.scope.names []) pm (.ref c') ctv p
    rw [e1]
    rw [d1] at hp
    obtain ⟨_, its, rv, o, ho, _, n, hd⟩ := e0.hok p _ hp
    have hits : ∃ v, its = [v] := by
      cases rv with
      | cons r1 r2 =>
        cases r2
        exact ⟨_, rfl⟩
    obtain ⟨v, ev⟩ := hits
    subst ev
    refine wpAny_bind (wpAny_seqItems ho hd ?_)
    rw [e2 v]
    exact wpAny_pure (go [(a, v)] fun x hx => by
      have : x = (a, v) := by simpa using hx
      rw [this]
      exact ha)
theorem lam_run (I : Inv X pins σ H s) (L : LamN X.N X.env.scope t.scope) (hb : LamBind t) (hq : t.q = X.env.qual ++ "<lambda>")
    (hbody : ∀ (A : Around) (outer : List Env) (s : Shared) (H : Hp) (E : XK) (f c' : Addr), Room k (A.deeper (LamX.lamEnv X t.scope s.heap.objs.size f c')) → A.handled = none → PE (lamX X A outer s H E t.scope f c') t.body (te E)) (f : Addr) :
    LamRun X.prog X.w X.K X.mg X.base k (frs X.stack) f s H fun E H1 Q => LamAt H1 t (cloFrom X.env.cells t.scope.names []) f ∧ te E σ H1 Q :=
  lam_runX (ex := []) (fun _ _ _ z => by cases z) I L hb hq hbody f
end
theorem Un.deep {fs : List Addr} {L : Addr} {H H1 H2 : Hp} {h h1 h2 : Heap} (a : Un fs [] H H1 h h1) (b : Un (L :: fs) [] H1 H2 h1 h2) (hL : h.get? L = none) : Un fs [] H H2 h h2 := by
  have nL : ∀ c o, h.get? c = some o → c ≠ L := fun c o e z => by
    rw [z, hL] at e
    cases e
  constructor
  · intro c o q n hc hx
    refine b.keep c o (a.keep c o q n hc hx) (a.free c o q n hx) (fun z => ?_) hx
    rcases List.mem_cons.mp z with z | z
    · exact nL c o q z
    · exact hc z
  · intro c o q n hc hx
    obtain ⟨sl, e1⟩ := a.slot c o q n hc hx
    obtain ⟨sl', e2⟩ := b.slot c _ e1 (a.free c o q n hx) (List.mem_cons_of_mem _ hc) hx
    exact ⟨sl', e2⟩
  · intro c o q n hx
    obtain ⟨o', e1⟩ := a.there c o q hx
    exact b.free c o' e1 (a.free c o q n hx) hx
  · intro c o q hx
    obtain ⟨o', e1⟩ := a.there c o q hx
    exact b.there c o' e1 hx
  · exact fun c xs q => b.tups c xs (a.tups c xs q)
  · exact fun c o u q => b.frzs c o u (a.frzs c o u q)
  · intro c ps q
    obtain ⟨m1, e1⟩ := a.tbls c ps q
    obtain ⟨m2, e2⟩ := b.tbls c _ e1
    exact ⟨m1 ++ m2, by rw [e2, Array.append_assoc]⟩
theorem LamRun.later {P : Program} {w : World} {K : PySem.W.Frag} {mg : Str → Option Value} {base : Heap} {k : Nat} {fs : List Addr} {f : Addr} {s s2 : Shared} {H H2 : Hp} {tl : XK → Hp → VK → Prop} (R : LamRun P w K mg base k fs f s H tl) (u : Un fs [] H H2 s.heap s2.heap) : LamRun P w K mg base k fs f s2 H2 tl :=
  fun A stk s1 H1 Q E hr e0 un q => R A stk s1 H1 Q E hr e0 (u.trans un) q
theorem LamRun.deep {P : Program} {w : World} {K : PySem.W.Frag} {mg : Str → Option Value} {base : Heap} {k : Nat} {fs : List Addr} {f L : Addr} {s s2 : Shared} {H H2 : Hp} {tl : XK → Hp → VK → Prop} (R : LamRun P w K mg base k fs f s H tl) (u : Un fs [] H H2 s.heap s2.heap) (hL : s.heap.get? L = none) : LamRun P w K mg base k (L :: fs) f s2 H2 tl :=
  fun A stk s1 H1 Q E hr e0 un q => R A stk s1 H1 Q E hr e0 (Un.deep u un hL) q
end G

/-! GFld: a caught error's tag and field; the def that tells the field. -/
namespace G
open PySem PySem.Spec L2 PyProof.Rows L2H
open Evl (Ex)
/-- the heap with new tuples -/
structure TupX (H H' : Hp) : Prop where
  ex : Ex H H'
  new : ∀ b o, H' b = some o → H b = some o ∨ (H b = none ∧ ∃ xs, o = .tup xs)
theorem TupX.refl (H : Hp) : TupX H H := ⟨Ex.refl H, fun b o e => .inl e⟩
theorem TupX.trans {a b c : Hp} (h : TupX a b) (k : TupX b c) : TupX a c := ⟨h.ex.trans k.ex, fun x o e => by
  rcases k.new x o e with z | ⟨z, w⟩
  · exact h.new x o z
  · refine .inr ⟨?_, w⟩
    cases q : a x with
    | none => rfl
    | some u =>
      have := h.ex x u q
      rw [z] at this
      cases this⟩
theorem TupX.one {H : Hp} {p : Addr} {xs : List V} (h : H p = none) : TupX H (upd H p (.tup xs)) := ⟨Ex.new h, fun b o e => by
  by_cases hb : b = p
  · subst hb
    rw [upd_same] at e
    exact .inr ⟨h, xs, (Option.some.inj e).symm⟩
  · rw [upd_ne hb] at e
    exact .inl e⟩
/-- what the written part says of an error class whose instances are read -/
structure XcR (K : PySem.W.Frag) (C : Addr) (f : Str) : Prop where
  r : XfC K C
  tg : PySem.W.findIn K (.ref C) "tag" = some none
  fl : PySem.W.findIn K (.ref C) f = some none
/-- the caught error p: its tag x, its field f with the value v -/
def ErrAt (K : PySem.W.Frag) (p : Addr × Obj) (H : Hp) (x f : Str) (v : V) : Prop := ∃ C dd fs, p.2.cls = .ref C ∧ p.2.dict = some dd ∧ (∃ vs, p.2.data = .fields vs) ∧ H dd = some (.xd fs) ∧ fs.lookup ("tag" : Str) = some (.str x) ∧ fs.lookup f = some v ∧ XcR K C f
theorem ErrAt.mono {K : PySem.W.Frag} {p : Addr × Obj} {H H' : Hp} {x f : Str} {v : V} (h : ErrAt K p H x f v) (e : Ex H H') : ErrAt K p H' x f v := by
  obtain ⟨C, dd, fs, h1, h2, h3, h4, h5⟩ := h
  exact ⟨C, dd, fs, h1, h2, h3, e _ _ h4, h5⟩
section
variable {X : Cx} {p : Addr × Obj} {e : Expr} {te : TE} {pos : Pos} {n : Str}
theorem pe_xp (hp : p ∈ X.pn) (he : PE X e te) (hb : attributeBase e n X.env (eval e X.env) = eval e X.env := by rfl) :
    PE X (.Attribute e n pos) (fun σ H Q => te σ H fun x H1 => x = .ref p.1 ∧ ∃ C dd fs v, p.2.cls = .ref C ∧ p.2.dict = some dd ∧ (∃ vs, p.2.data = .fields vs) ∧ H1 dd = some (.xd fs) ∧ fs.lookup n = some v ∧ XfC X.K C ∧ PySem.W.findIn X.K (.ref C) n = some none ∧ Q v H1) := by
  refine ⟨fun pins s σ H Q I h => ?_⟩
  refine attr_of hb (thn (he.run pins s σ H _ I h) fun u s1 hh => ?_)
  obtain ⟨x, H1, I1, rx, ex, C, dd, fs, v, ec, ed, ⟨vs, hd⟩, ea, l, T, hno, q⟩ := hh
  subst ex
  obtain rfl : u = Value.ref p.1 := rx
  obtain ⟨ha, _⟩ := I1.pin p (List.mem_append_left _ hp)
  obtain ⟨mA, hns, hr⟩ := (show ObjOk X.prog X.w H1 s1.heap dd (.xd fs) from I1.hok dd _ ea)
  obtain ⟨od, ho, hl⟩ := lookIn_ns hns
  obtain ⟨u, hu, ru⟩ := RelO.some_of (v := v) (o := mA n) (by rw [← l]; exact hr n)
  have J : PySem.W.InstAt s1.heap p.1 p.2 C (some od) := ⟨ha, ec, by unfold PySem.W.notCls; rw [hd] <;> rfl, by rw [ed]; exact ho⟩
  exact HandSPX.exc_get I1.kIn J T.ga T.gg T.exC (PySem.W.findObj_own T.hdC hno rfl (by rw [hl, hu])) (handed_of ru) ⟨v, H1, I1.tok _, ru, q⟩
inductive StrCs : List Expr → List Str → Prop
  | nil : StrCs [] []
  | cons {s : Str} {j : Nat} {q : Pos} {es : List Expr} {l : List Str} (h : StrCs es l) : StrCs (.Constant (.str s) j q :: es) (s :: l)
theorem pa_strs {es : List Expr} {l : List Str} (h : StrCs es l) : PA X es (fun σ H Q => Q (l.map V.str) H) := by
  induction h with
  | nil => exact ⟨fun pos pins s σ H Q I q => pa_nil.run pos pins s σ H Q I q⟩
  | cons h ih => exact ⟨fun pos pins s σ H Q I q => (pa_cons pe_str ih rfl).run pos pins s σ H Q I q⟩
theorem inV_strs {x : Str} : ∀ {l : List Str}, inV (.str x) (l.map V.str) = decide (x ∈ l)
  | [] => rfl
  | y :: l => by
    have ih := inV_strs (x := x) (l := l)
    unfold inV at ih ⊢
    rw [List.map_cons, List.any_cons, ih]
    have e : eqV (.str y) (.str x) = decide (x = y) := by
      show decide (y = x) = decide (x = y) <;> exact decide_eq_decide.mpr ⟨Eq.symm, Eq.symm⟩
    rw [e]
    by_cases h : x = y
    · simp [h]
    · simp [h]
theorem flat_strs : ∀ l : List Str, (l.map V.str).all flatV = true
  | [] => rfl
  | y :: l => by
    rw [List.map_cons, List.all_cons, flat_strs l]
    rfl
/-- the tag is one of these -/
def tTagIn (K : PySem.W.Frag) (p : Addr × Obj) (l : List Str) : TT := fun σ H Q => σ[0]? = some (some (.ref p.1)) ∧ ∃ x f v, ErrAt K p H x f v ∧ ∀ H', TupX H H' → Q (decide (x ∈ l)) H'
def tFldE (K : PySem.W.Frag) (p : Addr × Obj) (fn : Str) : TE := fun σ H Q => σ[0]? = some (some (.ref p.1)) ∧ ∃ x v, ErrAt K p H x fn v ∧ Q v H
variable {es : List Expr} {l : List Str} {q1 q2 q3 q4 : Pos} {k : Nat}
theorem pt_tagIn (hp : p ∈ X.pn) (hN : X.N[0]? = some ("_law_e" : Str)) (hv : Vis X.env.scope "_law_e") (hl : l.length ≤ 100) (h : StrCs es l) (hm : behindInMarks .In (.Tuple es k q3) = false) : PT X (.Compare (.Attribute (.Name "_law_e" q1) "tag" q2) [.In] [.Tuple es k q3] q4) (tTagIn X.K p l) := by
  refine ⟨fun pins s σ H Q I ⟨h0, x, f, v, ⟨C, dd, fs, e1, e2, e3, e4, e5, e6, T⟩, hq⟩ => ?_⟩
  refine (pt_cmpR op_in_seq (pe_xp hp (pe_var (i := 0) hN hv)) (pe_tup (pa_strs h)) hm).run pins s σ H Q I ?_
  refine ⟨.ref p.1, h0, rfl, C, dd, fs, .str x, e1, e2, e3, e4, e5, T.r, T.tg, ?_, fun pp hpp => ?_⟩
  · rw [List.length_map, sizeLine_eq]
    omega
  · refine ⟨pp, _, rfl, .inr (SqT.of upd_same), rfl, flat_strs l, _, rfl, ?_⟩
    show Q (inV (.str x) (l.map V.str)) _
    rw [inV_strs]
    exact hq _ (TupX.one hpp)
theorem pe_fldE (hp : p ∈ X.pn) (hN : X.N[0]? = some ("_law_e" : Str)) (hv : Vis X.env.scope "_law_e") (hb : attributeBase (.Name "_law_e" q1) n X.env (eval (.Name "_law_e" q1) X.env) = eval (.Name "_law_e" q1) X.env) : PE X (.Attribute (.Name "_law_e" q1) n q2) (tFldE X.K p n) := by
  refine ⟨fun pins s σ H Q I ⟨h0, x, v, ⟨C, dd, fs, e1, e2, e3, e4, e5, e6, T⟩, hq⟩ => ?_⟩
  exact (pe_xp hp (pe_var (i := 0) hN hv) hb).run pins s σ H Q I ⟨.ref p.1, h0, rfl, C, dd, fs, v, e1, e2, e3, e4, e6, T.r, T.fl, hq⟩
theorem ifd {c : Prop} [Decidable c] {A B : Prop} (h : c) (a : A) : if decide c = true then A else B := by
  rw [if_pos (decide_eq_true h)]
  exact a
theorem ifn {c : Prop} [Decidable c] {A B : Prop} (h : ¬ c) (b : B) : if decide c = true then A else B := by
  rw [if_neg (by simpa using h)]
  exact b
theorem fld_body (hp : p ∈ X.pn) (hN : X.N[0]? = some ("_law_e" : Str)) (hv : Vis X.env.scope "_law_e") {p1 p2 p3 p4 p5 p6 p7 p8 p9 p10 p11 p12 p13 p14 p15 p16 p17 p18 p19 p20 p21 p22 p23 p24 p25 p26 p27 p28 p29 p30 p31 p32 p33 p34 p35 p36 p37 p38 p39 p40 p41 p42 p43 p44 p45 p46 p47 p48 p49 p50 p51 p52 p53 p54 p55 p56 p57 p58 p59 p60 p61 p62 p63 p64 p65 p66 p67 p68 p69 p70 p71 p72 p73 p74 p75 p76 p77 p78 p79 p80 p81 : Pos} {x f : Str} {v : V} {D : L2.Ends} {σ : L2.St} {H : Hp} (h0 : σ[0]? = some (some (.ref p.1))) (he : ErrAt X.K p H x f v) (hf : fname x = some f) (hq : ∀ H', TupX H H' → D.rt v H') :
    ∃ t, PSs X ([ (.If ((.Compare ((.Attribute (.Name "_law_e" p1) "tag" p2)) ([.In]) ([ (.Tuple ([ (.Constant (.str "BadParent") 0 p3), (.Constant (.str "Cycle") 0 p4), (.Constant (.str "NotRoot") 0 p5), (.Constant (.str "SameRoot") 0 p6), (.Constant (.str "RootsDiffer") 0 p7), (.Constant (.str "NoWay") 0 p8), (.Constant (.str "BadWeight") 0 p9), (.Constant (.str "NoNode") 0 p10)]) (0) (p11))]) (p12))) ([ (.Return ((some (.Attribute (.Name "_law_e" p13) "node" p14))) (p15))]) ([]) (p16)), (.If ((.Compare ((.Attribute (.Name "_law_e" p17) "tag" p18)) ([.In]) ([ (.Tuple ([ (.Constant (.str "TooManyNodes") 0 p19), (.Constant (.str "TooLong") 0 p20), (.Constant (.str "TooManyForests") 0 p21), (.Constant (.str "TooManyWatches") 0 p22)]) (0) (p23))]) (p24))) ([ (.Return ((some (.Attribute (.Name "_law_e" p25) "limit" p26))) (p27))]) ([]) (p28)), (.If ((.Compare ((.Attribute (.Name "_law_e" p29) "tag" p30)) ([.In]) ([ (.Tuple ([ (.Constant (.str "BadStep") 0 p31), (.Constant (.str "BadCost") 0 p32), (.Constant (.str "Contradiction") 0 p33), (.Constant (.str "ParseError") 0 p34)]) (0) (p35))]) (p36))) ([ (.Return ((some (.Attribute (.Name "_law_e" p37) "pos" p38))) (p39))]) ([]) (p40)), (.If ((.Compare ((.Attribute (.Name "_law_e" p41) "tag" p42)) ([.In]) ([ (.Tuple ([ (.Constant (.str "SizesDiffer") 0 p43), (.Constant (.str "BadSize") 0 p44)]) (0) (p45))]) (p46))) ([ (.Return ((some (.Attribute (.Name "_law_e" p47) "size" p48))) (p49))]) ([]) (p50)), (.If ((.Compare ((.Attribute (.Name "_law_e" p51) "tag" p52)) ([.In]) ([ (.Tuple ([ (.Constant (.str "BadName") 0 p53), (.Constant (.str "NameTaken") 0 p54), (.Constant (.str "NoForest") 0 p55)]) (0) (p56))]) (p57))) ([ (.Return ((some (.Attribute (.Name "_law_e" p58) "name" p59))) (p60))]) ([]) (p61)), (.If ((.Compare ((.Attribute (.Name "_law_e" p62) "tag" p63)) ([.In]) ([ (.Tuple ([ (.Constant (.str "BadCommand") 0 p64), (.Constant (.str "BadCount") 0 p65)]) (0) (p66))]) (p67))) ([ (.Return ((some (.IfExp ((.Compare ((.Attribute (.Name "_law_e" p68) "tag" p69)) ([.Eq]) ([(.Constant (.str "BadCommand") 0 p70)]) (p71))) ((.Attribute (.Name "_law_e" p72) "word" p73)) ((.Attribute (.Name "_law_e" p74) "count" p75)) (p76)))) (p77))]) ([]) (p78)), (.Return ((some (.Attribute (.Name "_law_e" p79) "number" p80))) (p81))]) t ∧ t D σ H := by
  refine ⟨_, pss_cons (ps_if (pt_tagIn hp hN hv (by decide) (.cons (.cons (.cons (.cons (.cons (.cons (.cons (.cons .nil)))))))) rfl) (pss_one (ps_ret (pe_fldE hp hN hv rfl))) pss_nil)
    (pss_cons (ps_if (pt_tagIn hp hN hv (by decide) (.cons (.cons (.cons (.cons .nil)))) rfl) (pss_one (ps_ret (pe_fldE hp hN hv rfl))) pss_nil)
    (pss_cons (ps_if (pt_tagIn hp hN hv (by decide) (.cons (.cons (.cons (.cons .nil)))) rfl) (pss_one (ps_ret (pe_fldE hp hN hv rfl))) pss_nil)
    (pss_cons (ps_if (pt_tagIn hp hN hv (by decide) (.cons (.cons .nil)) rfl) (pss_one (ps_ret (pe_fldE hp hN hv rfl))) pss_nil)
    (pss_cons (ps_if (pt_tagIn hp hN hv (by decide) (.cons (.cons (.cons .nil))) rfl) (pss_one (ps_ret (pe_fldE hp hN hv rfl))) pss_nil)
    (pss_cons (ps_if (pt_tagIn hp hN hv (by decide) (.cons (.cons .nil)) rfl) (pss_one (ps_ret (pe_ifExp (pt_cmpR op_eq (pe_xp hp (pe_var (i := 0) hN hv) rfl) pe_str (nomark _)) (pe_fldE hp hN hv rfl) (pe_fldE hp hN hv rfl)))) pss_nil)
    (pss_one (ps_ret (pe_fldE hp hN hv rfl)))))))), ?_⟩
  unfold fname at hf
  refine ⟨h0, x, f, v, he, fun H1 x1 => ?_⟩
  split at hf
  · rename_i c
    refine ifd c ?_
    cases hf
    exact ⟨h0, x, v, he.mono x1.ex, hq _ x1⟩
  rename_i c
  refine ifn c ?_
  refine ⟨h0, x, f, v, he.mono x1.ex, fun H2 x2 => ?_⟩
  have x2 := x1.trans x2
  split at hf
  · rename_i c
    refine ifd c ?_
    cases hf
    exact ⟨h0, x, v, he.mono x2.ex, hq _ x2⟩
  rename_i c
  refine ifn c ?_
  refine ⟨h0, x, f, v, he.mono x2.ex, fun H3 x3 => ?_⟩
  have x3 := x2.trans x3
  split at hf
  · rename_i c
    refine ifd c ?_
    cases hf
    exact ⟨h0, x, v, he.mono x3.ex, hq _ x3⟩
  rename_i c
  refine ifn c ?_
  refine ⟨h0, x, f, v, he.mono x3.ex, fun H4 x4 => ?_⟩
  have x4 := x3.trans x4
  split at hf
  · rename_i c
    refine ifd c ?_
    cases hf
    exact ⟨h0, x, v, he.mono x4.ex, hq _ x4⟩
  rename_i c
  refine ifn c ?_
  refine ⟨h0, x, f, v, he.mono x4.ex, fun H5 x5 => ?_⟩
  have x5 := x4.trans x5
  split at hf
  · rename_i c
    refine ifd c ?_
    cases hf
    exact ⟨h0, x, v, he.mono x5.ex, hq _ x5⟩
  rename_i c
  refine ifn c ?_
  refine ⟨h0, x, f, v, he.mono x5.ex, fun H6 x6 => ?_⟩
  have x6 := x5.trans x6
  have he6 := he.mono x6.ex
  split at hf
  · rename_i c
    subst c
    cases hf
    refine ifd (by decide) ?_
    obtain ⟨C, dd, fs, e1, e2, e3, e4, e5, e7, T⟩ := he6
    refine ⟨.ref p.1, h0, rfl, C, dd, fs, .str "BadCommand", e1, e2, e3, e4, e5, T.r, T.tg, rfl, _, rfl, ?_⟩
    refine ifd (by decide) ?_
    exact ⟨h0, _, v, ⟨C, dd, fs, e1, e2, e3, e4, e5, e7, T⟩, hq _ x6⟩
  split at hf
  · rename_i c
    subst c
    cases hf
    refine ifd (by decide) ?_
    obtain ⟨C, dd, fs, e1, e2, e3, e4, e5, e7, T⟩ := he6
    refine ⟨.ref p.1, h0, rfl, C, dd, fs, .str "BadCount", e1, e2, e3, e4, e5, T.r, T.tg, rfl, _, rfl, ?_⟩
    refine ifn (by decide) ?_
    exact ⟨h0, _, v, ⟨C, dd, fs, e1, e2, e3, e4, e5, e7, T⟩, hq _ x6⟩
  rename_i c1 c2
  refine ifn (by simp [c1, c2]) ?_
  split at hf
  · cases hf
    exact ⟨h0, x, v, he6, hq _ x6⟩
  · cases hf
end
end G

/-! GOut: where an error is handled: pairs stored, the field's def called; try with a pair of classes and a class. -/
namespace G
open PySem PySem.Spec L2 PyProof.Rows L2H HotX
open Evl (Ex)
section
variable {prog : Program} {w : World} {A : Around} {E : Value → Shared → Prop} {s : Shared}
theorem tuple_end_hot {it t x1 : Addr} {i : Nat} {items : Array Value} {Q : Option Value → Shared → Prop} (hot : HotAt A x1 s.heap) (hx1 : x1 ≠ it)
    (hit : IsTupIter s.heap it t i) (ht : IsTup s.heap t items) (hx : items[i]? = none)
    (hQ : ∀ h', Heap.ExtBut it s.heap h' → Q none { s with heap := h' }) : wpAny (model prog w) A (pyNext (.ref it)) Q E s := by
  obtain ⟨o, ho, hc, hd⟩ := id hit
  obtain ⟨ol, hol, _, nl, hdl⟩ := ht
  obtain ⟨hh, o1, vs1, h1, d1, c1⟩ := hot
  unfold pyNext
  refine wpAny_bind (wpAny_attempt (wpAny_callSpecial?_slot (name := Str.ofString "__next__") hit.typeIs slot_tupleiter_next
    (wpAny_call_entry slot_tupleiter_next hit.typeIs entry_tupleiter_next ?_ (args_tupleiter_next _))))
  show wpAny _ _ (field (.ref it) 0 >>= _) _ _ s
  refine wpAny_bind (wpAny_field ho hd (x := .ref t) rfl ?_)
  show wpAny _ _ (if (Value.ref t == Value.none) = true then _ else _) _ _ s
  rw [if_neg (show ¬ ((Value.ref t == Value.none) = true) from Bool.false_ne_true)]
  show wpAny _ _ (field (.ref it) 1 >>= _) _ _ s
  refine wpAny_bind (wpAny_field ho hd (x := .int i 0) rfl ?_)
  show wpAny _ _ (seqItems? (.ref t) >>= _) _ _ s
  refine wpAny_bind (wpAny_seqItems hol hdl ?_)
  simp only [Int.toNat_natCast, hx]
  refine wpAny_bind (wpAny_rule (wpAny_bind (wpAny_setField ho hd (by simp) ?_)))
  show wpAny _ _ (newExc (.type "StopIteration") [] >>= _) _ _ _
  refine wpAny_bind ?_
  simp only [newExc, newTuple]
  refine wpAny_bind (wpAny_newObj_type ?_ (by size_fits))
  refine wpAny_bind (m := firstArgMember _ _) (wpAny_of_eq (a := Value.none) (by first | rfl | (simp only [firstArgMember]; rfl)) ?_)
  refine wpAny_newObj_type ?_ (by size_fits)
  have e1 : ∀ (f : Obj → Obj) (u1 u2 : Obj), (((s.heap.update it f).push u1).push u2).get? x1 = some o1 := fun f u1 u2 =>
    Heap.get?_push_of_some _ (Heap.get?_push_of_some _ ((Heap.get?_update_other _ _ (Ne.symm hx1)).trans h1))
  refine raiseNew_hot ⟨hh, o1, vs1, e1 _ _ _, d1, c1⟩ (Nat.ne_of_lt (Heap.lt_size (Heap.get?_push_of_some _ ((Heap.get?_update_other _ _ (Ne.symm hx1)).trans h1)))) (Heap.get?_push_size _ rfl) rfl (by first | (simp; done) | (simp; omega) | (simp only [Array.size_append]; simp; omega)) ?_
  refine wpAny_bind (wpAny_isInstance (T := "StopIteration") (b := true) ⟨_, Heap.get?_update_self _ (Heap.get?_push_size _ rfl) rfl, rfl⟩ isSubtype_stop ?_)
  refine wpAny_pure (hQ _ fun b u hb e => ?_)
  have k : (s.heap.update it (Obj.mapFields (·.setIfInBounds 0 .none))).get? b = some u := (Heap.get?_update_other _ _ (Ne.symm hb)).trans e
  first
  | (rw [Heap.get?_update_other _ _ (Nat.ne_of_gt (Heap.lt_size (Heap.get?_push_of_some _ k)))]
     exact Heap.get?_push_of_some _ (Heap.get?_push_of_some _ k))
theorem unpack_hot {t x1 : Addr} {items : Array Value} {Q : List Value → Shared → Prop} (hot : HotAt A x1 s.heap) (ht : IsTup s.heap t items)
    (hQ : ∀ h', Heap.ExtBut s.heap.objs.size s.heap h' → Q items.toList { s with heap := h' }) : wpAny (model prog w) A (unpackItems (.ref t) items.size none) Q E s := by
  have hlt : t ≠ s.heap.objs.size := by obtain ⟨o, ho, _⟩ := ht; exact Nat.ne_of_lt (Heap.lt_size ho)
  have hx1 : x1 ≠ s.heap.objs.size := by obtain ⟨_, o, _, ho, _⟩ := hot; exact Nat.ne_of_lt (Heap.lt_size ho)
  unfold unpackItems
  refine wpAny_bind ?_
  unfold notIterableAtAll
  refine wpAny_bind (wpAny_specialOf ht.typeIs slot_tuple_iter.lookup ?_)
  refine wpAny_pure ?_
  simp only [Bool.false_eq_true, if_false]
  refine wpAny_bind (wpAny_holding (iter_tuple ht ?_))
  refine wpAny_bind (wpAny_holding (draw_tuple hlt items.size 0 _ _ ⟨_, Heap.get?_push_size _ rfl, rfl, rfl⟩ (ht.push _) (by omega) fun h₁ hit₁ hs₁ => ?_))
  have hall : List.take items.size (List.drop 0 items.toList) = items.toList := by
    rw [List.drop_zero]; exact List.take_of_length_le (by simp)
  rw [hall, if_neg (by simp)]
  have ht₁ : IsTup h₁ t items := (ht.push _).extBut hs₁.extBut hlt
  have hot1 : HotAt A x1 h₁ := by
    obtain ⟨hh, o, vs, ho, r⟩ := hot
    exact ⟨hh, o, vs, hs₁.extBut x1 o hx1 (Heap.get?_push_of_some _ ho), r⟩
  refine wpAny_bind (wpAny_holding (tuple_end_hot hot1 hx1 hit₁ ht₁ (by simp) fun h₂ he₂ => ?_))
  simp only [Option.isSome_none, Bool.false_eq_true, if_false]
  exact wpAny_pure (hQ h₂ fun b o hb e => he₂ b o hb (hs₁.extBut b o hb (Heap.get?_push_of_some _ e)))
end
section
variable {X : Cx} {pos : Pos}
/-- a, b = x, y where an exception is handled -/
theorem ps_parH {i j : Nat} {x y : Str} {a b : Expr} {ta : TA} {px py pt : Pos} {kt k2 : Nat} {pt2 : Pos} (hc : HotC X) (hN : X.N.Nodup) (hi : X.N[i]? = some x) (hj : X.N[j]? = some y) (hij : i ≠ j)
    (hx : X.env.scope.names.lookup x = some .local) (hy : X.env.scope.names.lookup y = some .local) (ha : PA X [a, b] ta)
    (hw : swappedStores [.Tuple [.Name x px, .Name y py] kt pt] (.Tuple [a, b] k2 pt2) X.env = pure (some [x, y]))
    (hs : swapsWithSole [.Tuple [.Name x px, .Name y py] kt pt] (.Tuple [a, b] k2 pt2) pos.line X.env = pure false := by rfl) :
    PS X (.Assign [.Tuple [.Name x px, .Name y py] kt pt] (.Tuple [a, b] k2 pt2) pos) (tPar i j ta) := by
  refine ⟨fun pins s σ H D I h => ?_⟩
  rw [exec_Assign_arm]
  refine wpAny_bind (wpAny_standAt ?_)
  rw [hs]
  refine wpAny_bind (wpAny_pure ?_)
  rw [if_neg (by decide)]
  refine wpAny_bind (Tuple_ (thn (ha.run _ pins s σ H _ I h) fun us s1 ⟨vs, H1, I1, r1, v, w, e1, q1⟩ => ?_))
  subst e1
  obtain ⟨u1, u2, rfl, rv, rw'⟩ : ∃ u1 u2, us = [u1, u2] ∧ RelV v u1 ∧ RelV w u2 := by
    cases r1 with
    | cons p q =>
      cases q with
      | cons p' q' =>
        cases q'
        exact ⟨_, _, rfl, p, p'⟩
  refine wpAny_newObj_type ?_ (by show 2 ≤ sizeLine; decide)
  have I2 : Inv X pins σ H1 { s1 with heap := s1.heap.push { cls := .type "tuple", data := .seq [u1, u2].toArray } } := I1.kept (t' := s1.toks) fun b o e => Heap.get?_push_of_some _ e
  obtain ⟨x1, hot⟩ := hc.at I2
  rw [hw]
  refine wpAny_bind (wpAny_pure ?_)
  show wpAny (model X.prog X.w) X.A (do rule "assign.swapped-stores"; let items ← unpackItems (.ref s1.heap.objs.size) 2 none; assignInOrder [fun v => bindName X.env y v, fun v => bindName X.env x v] items.reverse; pure Flow.next) _ _ _
  refine wpAny_bind (wpAny_rule (wpAny_bind (unpack_hot (items := #[u1, u2]) hot (IsTup.new s1.heap _) fun h' hx' => ?_)))
  have I3 := I2.kept (h' := h') (t' := s1.toks) fun b o e => hx' b o (Nat.ne_of_lt (Heap.lt_size e)) e
  show wpAny _ _ (assignInOrder [fun v => bindName X.env y v, fun v => bindName X.env x v] [u2, u1] >>= fun _ => pure Flow.next) _ _ _
  refine wpAny_bind (assignInOrder_cons (wpAny_bindName (store_ok I3 hN hj (.inl hy) rw' (fun s2 I4 => ?_) (.inr hy))))
  refine assignInOrder_cons (wpAny_bindName (store_ok I4 hN hi (.inl hx) rv (fun s3 I5 => assignInOrder_nil (wpAny_pure ?_)) (.inr hx)))
  rw [List.set_comm _ _ (Ne.symm hij)] at I5
  exact ⟨_, H1, I5, q1⟩
end
/-! ### the def that tells the field -/
def FldBody (body : List Stmt) : Prop := ∀ {X : Cx} {p : Addr × Obj} {x f : Str} {v : V} {D : L2.Ends} {σ : L2.St} {H : Hp}, p ∈ X.pn → X.N[0]? = some ("_law_e" : Str) → Vis X.env.scope "_law_e" → σ[0]? = some (some (.ref p.1)) → ErrAt X.K p H x f v → fname x = some f → (∀ H', TupX H H' → D.rt v H') → ∃ t, PSs X body t ∧ t D σ H
structure FldOk (P : Program) (w : World) (K : PySem.W.Frag) (mg : Str → Option Value) (base : Heap) (g : Addr) (fd : FuncData) : Prop where
  run : ∀ (A : Around) (outer : List Env) (s : Shared) (H : Hp) (Q : VK) (p : Addr × Obj) (x f : Str) (v : V), RoomH 1 A → Hot1 A p → PinOk outer H s p → Env0 P w K mg base A outer s H → BindsTo s fd ⟨[.ref p.1], []⟩ [("_law_e", .ref p.1)] → ErrAt K p H x f v → fname x = some f → (∀ H', TupX H H' → Q v H') →
    codeAny (model P w) A (.call (.ref g) ⟨[.ref p.1], []⟩) (CR (L2N.CX P w) outer P w H s Q fun _ _ _ => False) s
theorem fld_ok {P : Program} {w : World} {K : PySem.W.Frag} {mg : Str → Option Value} {base : Heap} {g : Addr} {fd : FuncData} {qual : Str} {params : Arguments} {body : List Stmt} {scope : Scope} (FD : FunD K "_law_field" qual params body scope [] [] g fd) (S : FnScope ["_law_e"] ["_law_e"] scope) (hv : scope.names.lookup ("_law_e" : Str) = some .local) (hb : FldBody body) : FldOk P w K mg base g fd := by
  obtain ⟨oc, od, dV, kV, doc, pm, an, cdv, ct, osl, rfl, lk, hcd, _, _⟩ := FD.ex
  refine ⟨fun A outer s H Q p x f v hr hot hpin e0 hbd he hf hq => ?_⟩
  have KX : K.In s.heap := e0.mod.kin.keeps fun b o e => (e0.bs b o e).1
  have lim : s.heap.NoLimit := e0.mod.nolimit.keeps fun b o e => (e0.bs b o e).1
  have hkind : ∀ y ∈ [(("_law_e" : Str), Value.ref p.1)], scope.names.lookup y.1 = some .local ∨ (scope.names.lookup y.1 = some .cell ∧ ((cellsFrom (s.heap.objs.size + 1) scope.names []).lookup y.1).isSome = true) := fun y hy => by
    have e : y = (("_law_e" : Str), Value.ref p.1) := by simpa using hy
    rw [e]
    exact .inl hv
  refine codeAny_call_function hr.depth (KX _ _ lk) rfl S.co S.gen rfl (PySem.W.codeRec_of KX hcd) (hbd _ _ _ _ ?_)
  refine wpAny_newFunctionEnv_cells S.kind hkind fun env he' s1 xx => ?_
  subst he'
  refine ⟨lim.keeps xx.toInCall.keep, codeAny_func ?_⟩
  have I : Inv (cxH (L2N.CX P w) P w K mg base ["_law_e"] qual scope g cdv A outer s H (fun _ _ _ => False) p) [] (L2.start ["_law_e"] [.ref p.1]) H s1 := inv_startH (us := [.ref p.1]) S hpin e0 rfl (.cons rfl .nil) xx
  obtain ⟨t, ht, htt⟩ := hb (X := cxH (L2N.CX P w) P w K mg base ["_law_e"] qual scope g cdv A outer s H (fun _ _ _ => False) p) (p := p) (D := { nx := fun _ H' => Q .non H', rt := Q }) (σ := L2.start ["_law_e"] [.ref p.1]) (H := H) (by show p ∈ [p]; simp) rfl (.inl hv) rfl he hf hq
  refine wpAny_mono (ht.run [] s1 _ H _ I htt) (fun fl s' hs => ?_) fun e s' hs => hs
  have fin : ∀ {σ' : L2.St} {H' : Hp} {v : V} {u : Value}, Inv (cxH (L2N.CX P w) P w K mg base ["_law_e"] qual scope g cdv A outer s H (fun _ _ _ => False) p) [] σ' H' s' → L2.RelV v u → Q v H' → CE outer P w H s Q u s' :=
    fun {σ' H' v u} J rv q => ⟨v, H', J.os, J.bare, J.base, J.hok, rv, q⟩
  cases fl with
  | ret u =>
    obtain ⟨v, σ', H', J, rv, q⟩ := hs
    exact fin J rv q
  | next =>
    obtain ⟨σ', H', J, q⟩ := hs
    exact fin (v := V.non) (u := Value.none) J rfl q
  | brk =>
    obtain ⟨_, _, _, q⟩ := hs
    exact False.elim q
  | cont =>
    obtain ⟨_, _, _, q⟩ := hs
    exact False.elim q
section
variable {X : Cx} {p : Addr × Obj} {i : Nat} {q1 q2 q3 : Pos} {g : Addr} {fd : FuncData}
theorem pe_fld (F : FldOk X.prog X.w X.K X.mg X.base g fd) (hr : RoomH 1 X.A) (hot : Hot1 X.A p) (hp : p ∈ X.pn) (hg : Gl X "_law_field") (hm : X.mg "_law_field" = some (.ref g)) (hk : PySem.W.keepIn X.K (.ref g) = true) (hb : Binds X.K fd ["_law_e"] []) (hN : X.N[i]? = some ("_law_e" : Str)) (hv : Vis X.env.scope "_law_e")
    (he : starEach [.Name "_law_e" q2] X.env = (false, eval (.Name "_law_e" q2) X.env) :: starEach [] X.env := by rfl) :
    PE X (.Call (.Name "_law_field" q1) [.Name "_law_e" q2] [] q3) (fun σ H Q => σ[i]? = some (some (.ref p.1)) ∧ ∃ x f v, ErrAt X.K p H x f v ∧ fname x = some f ∧ ∀ H', TupX H H' → Q v H') := by
  refine ⟨fun pins s σ H Q I ⟨h0, x, f, v, hE, hf, hq⟩ => ?_⟩
  refine wpAny_Call_Name_kw (ld_glob I hg hm ?_ (by decide))
  refine PySem.W.callWith_K (h₀ := X.base) I.ok.mod.kin hk (thn ((pa_cons (pe_var (i := i) hN hv) pa_nil he).run q3 pins s σ H (fun vs H1 => vs = [.ref p.1] ∧ H1 = H) I ⟨_, h0, rfl, rfl⟩) fun us s1 ⟨vs, H1, I1, r1, ev, eH⟩ => ⟨I1.kIn, ?_⟩) he (by rfl)
  subst ev eH
  have eu : us = [Value.ref p.1] := by
    cases r1 with
    | cons r rr =>
      cases rr
      rw [show _ = Value.ref p.1 from r]
  subst eu
  have P1 := I1.pin p (List.mem_append_left _ hp)
  have hpin : PinOk X.stack H1 s1 p := ⟨P1.1, P1.2.1, fun hm => (List.mem_cons.mp (I1.stkSub p.1 hm)).elim P1.2.2.1 P1.2.2.2.1, P1.2.2.2.2⟩
  have bb := hb s1 [Value.ref p.1] I1.kIn rfl
  refine wpAny_call (codeAny_mono (F.run X.A X.stack s1 H1 Q p x f v hr hot hpin I1.env0 bb hE hf hq) fun r s' hq => ?_)
  cases r with
  | error e =>
    obtain ⟨_, _, _, _, _, _, _, _, _, _, _, _, z⟩ := hq
    exact z.elim
  | ok fl =>
    cases fl with
    | ret u => exact I1.after hq
    | next => exact False.elim hq
    | brk => exact False.elim hq
    | cont => exact False.elim hq
end
end G

/-! GOut2: try with a pair of classes and a class, both with a name. -/
namespace G
open PySem PySem.Spec L2 PyProof.Rows L2H HotX
open Evl (Ex)
/-- a class by its global name -/
structure GlC (X : Cx) (x : Str) (c : Value) : Prop where
  g : Gl X x
  d : (x == ("__debug__" : Str)) = false
  m : X.mg x = some c
/-- what the two clauses wish -/
def wO (K : PySem.W.Frag) (c1 c2 c3 : Value) (i : Nat) (t1 t2 : Addr → Value → Option Addr → TS) (D : L2.Ends) : WX := fun cls d σ H =>
  (PySem.W.exmAny K cls [c1, c2] = some true ∧ ∀ a, H a = none → t1 a cls d { nx := fun σ' H' => D.nx (σ'.set i none) H', rt := D.rt, bk := fun σ' H' => D.bk (σ'.set i none) H', ct := fun σ' H' => D.ct (σ'.set i none) H' } (σ.set i (some (.ref a))) H) ∨
    (PySem.W.exmAny K cls [c1, c2] = some false ∧ PySem.W.exmOne K cls c3 = some true ∧ ∀ a, H a = none → t2 a cls d { nx := fun σ' H' => D.nx (σ'.set i none) H', rt := D.rt, bk := fun σ' H' => D.bk (σ'.set i none) H', ct := fun σ' H' => D.ct (σ'.set i none) H' } (σ.set i (some (.ref a))) H)
theorem fly_push {B h : Heap} {l : List Env} {e : Addr} {Z : Obj → Prop} (f : HandSPX.FlyingZ B l e Z h) (u : Obj) : HandSPX.FlyingZ B l e Z (h.push u) := by
  obtain ⟨h1, h2, h3, oe, vs, T, oT, ts, e1, e2, e3, e4, e5, e6, e7, e8, e9⟩ := f
  exact ⟨fun b o q => Heap.get?_push_of_some _ (h1 b o q), h2, h3.of_keeps fun b o q _ => ⟨o, Heap.get?_push_of_some _ q, rfl⟩, oe, vs, T, oT, ts, Heap.get?_push_of_some _ e1, e2, e3, e4, e5, e6, Heap.get?_push_of_some _ e7, e8, e9⟩
section
variable {X : Cx} {x1 x2 x3 n : Str} {c1 c2 c3 : Value} {i k : Nat} {body su1 su2 : List Stmt} {b1 b2 : Stmt} {np1 np2 np3 ntp pos pos1 pos2 : Pos} {tb : WX → TS} {t1 t2 : Addr → Value → Option Addr → TS}
theorem ps_tryO (hs : X.stack = X.env :: X.outer) (hf : X.env.frame = some X.env.locals) (hN : X.N.Nodup) (hi : X.N[i]? = some n) (hln : X.env.kindOf n = some .local) (hc1 : GlC X x1 c1) (hc2 : GlC X x2 c2) (hc3 : GlC X x3 c3)
    (hb : ∀ (W : WX) (pn : List (Addr × Obj)) (xe : Value → Shared → Prop), L2N.Takes (X.tr pn xe) W → PassesOwn (model X.prog X.w) X.A X.env xe → PSs (X.tr pn xe) body (tb W))
    (hsu1 : ∀ (a : Addr) (oe : Obj) (cls : Value) (d : Option Addr) (pn : List (Addr × Obj)), L2N.Zn cls d oe → (∃ vs, oe.data = .fields vs) → PSs (X.suite a ((a, oe) :: pn)) (b1 :: su1) (t1 a cls d))
    (hsu2 : ∀ (a : Addr) (oe : Obj) (cls : Value) (d : Option Addr) (pn : List (Addr × Obj)), L2N.Zn cls d oe → (∃ vs, oe.data = .fields vs) → PSs (X.suite a ((a, oe) :: pn)) (b2 :: su2) (t2 a cls d)) :
    PS X (.Try body [.ExceptHandler (some (.Tuple [.Name x1 np1, .Name x2 np2] k ntp)) (some n) (b1 :: su1) pos1, .ExceptHandler (some (.Name x3 np3)) (some n) (b2 :: su2) pos2] [] [] pos) (fun D σ H => tb (wO X.K c1 c2 c3 i t1 t2 D) D σ H) := by
  refine ⟨fun pins s σ H D I h => ?_⟩
  have ok := I.ok
  have hfr : X.A.frames = some (X.env :: X.outer) := by rw [ok.frames, hs]
  have hloc : Loc X.env.scope n := .inl hln
  refine wpAny_Try_except ?_
  refine wpAny_mono ((hb (wO X.K c1 c2 c3 i t1 t2 D) (X.pn ++ pins) (fun e s₁ => wpAny (model X.prog X.w) X.A (noteFrame e X.env) (fun _ s₂ => wpAny (model X.prog X.w) X.A (setFlight e none) (fun _ s₃ =>
    wpAny (model X.prog X.w) X.A (handleBy e X.env [.ExceptHandler (some (.Tuple [.Name x1 np1, .Name x2 np2] k ntp)) (some n) (b1 :: su1) pos1, .ExceptHandler (some (.Name x3 np3)) (some n) (b2 :: su2) pos2]) (SP X pins D) X.xe s₃) X.xe s₂) X.xe s₁) (fun u s' xx => ?_) PassesOwn.looking).run [] s σ H D (I.toTry _) h) (fun f s1 hsp => ?_) (fun e s1 he => he)
  · obtain ⟨a, B, sI, pins', σ', H', cls, d, rfl, J', nb, up, sky, na, os, ag, wish⟩ := xx
    have J : Inv X pins σ' H' sI := J'.ofTry ok
    have sky' : Sky B (X.env :: X.outer) a (L2N.Zn cls d) X.env.locals s'.heap := by rw [← hs]; exact sky
    show wpAny (model X.prog X.w) X.A (noteFrame (.ref a) X.env) _ _ _
    refine L2N.Sky.land L2N.Zn.steady hfr hf sky' fun h3 fl3 up3 => ?_
    have J3 : Inv X pins σ' H' { s' with heap := h3 } := J.landed nb fl3.1 (up.trans up3) os ag
    obtain ⟨oe3, vs3, he3, hz3, hd3⟩ := fl3.there
    have nfr : a ∉ frs (X.env :: X.outer) := fun hm => by
      obtain ⟨_, o', e', hnf⟩ := fl3.2.2.1.mem hm
      rw [he3] at e'
      cases e'
      exact hnf _ hd3
    have nL : a ≠ X.env.locals := fun z => nfr (List.mem_filterMap.mpr ⟨X.env, List.mem_cons_self, by rw [hf, z]⟩)
    have nF : a ∉ X.fs := fun hm => by
      obtain ⟨e, he, q⟩ := List.mem_filterMap.mp hm
      exact nfr (List.mem_filterMap.mpr ⟨e, List.mem_cons_of_mem _ he, q⟩)
    have S3 := J3.suite he3 hd3 na nL nF
    obtain ⟨bb, hbb⟩ : ∃ bb, PySem.W.exmAny X.K cls [c1, c2] = some bb := by
      rcases wish with ⟨e, _⟩ | ⟨e, _⟩
      · exact ⟨_, e⟩
      · exact ⟨_, e⟩
    refine wpAny_handleBy_cons (codeAny_handlers_test ?_) (by intro q; cases q)
    -- the pair of classes
    refine Tuple_ (Calls.spliced_cons (ld_glob (X := X.suite a ((a, oe3) :: (X.pn ++ pins))) S3 hc1.g hc1.m (Calls.spliced_cons (ld_glob (X := X.suite a ((a, oe3) :: (X.pn ++ pins))) S3 hc2.g hc2.m (Calls.spliced_nil (wpAny_newObj_type ?_ (by show 2 ≤ sizeLine; decide))) hc2.d)) hc1.d))
    have fl4 := fly_push fl3 { cls := .type "tuple", data := .seq [c1, c2].toArray }
    have up4 : h3.UpToSlots (h3.push { cls := .type "tuple", data := .seq [c1, c2].toArray }) := Heap.UpToSlots.of_keeps fun b o e => Heap.get?_push_of_some _ e
    have J4 : Inv X pins σ' H' { s' with heap := h3.push { cls := .type "tuple", data := .seq [c1, c2].toArray } } := J.landed nb fl4.1 ((up.trans up3).trans up4) os ag
    have he4 : (h3.push { cls := .type "tuple", data := .seq [c1, c2].toArray }).get? a = some oe3 := Heap.get?_push_of_some _ he3
    have LT : PySem.W.Looks (model X.prog X.w) (h3.push { cls := .type "tuple", data := .seq [c1, c2].toArray }) (typeOf (.ref a)) cls := fun A Q E s k q => wpAny_typeOf_ref (k _ _ he4) (by rw [hz3.1]; exact q)
    have LM := PySem.W.exm_tup2 (M := model X.prog X.w) (J4.kIn) LT (Heap.get?_push_size h3 rfl) hbb
    refine LM.here ?_
    rcases wish with ⟨e, hts⟩ | ⟨e, e2, hts⟩
    · have eb : bb = true := Option.some.inj (hbb.symm.trans e)
      subst eb
      refine codeAny_handlers_suite_as ?_
      refine HandSPX.lands_againZ fl4 fun h5 fl5 up5 => ?_
      have J5 : Inv X pins σ' H' { s' with heap := h5 } := J.landed nb fl5.1 (((up.trans up3).trans up4).trans up5) os ag
      obtain ⟨oe5, vs5, he5, hz5, hd5⟩ := fl5.there
      have S5 := J5.suite he5 hd5 na nL nF
      refine store_ok (X := X.suite a ((a, oe5) :: (X.pn ++ pins))) (v := .ref a) S5 hN hi hloc rfl (fun s6 S6 => ?_) (.inr hln)
      refine wpAny_mono ((hsu1 a oe5 cls d (X.pn ++ pins) hz5 ⟨_, hd5⟩).run [] s6 _ H' _ S6 (hts a na)) (fun f s7 hsp => ?_) (fun _ _ z => False.elim z)
      have end_ : ∀ {σ7 : L2.St} {H7 : Hp} {Q : Shared → Prop}, Inv (X.suite a ((a, oe5) :: (X.pn ++ pins))) [] σ7 H7 s7 → (∀ s8, Inv X pins (σ7.set i none) H7 s8 → Q s8) →
          wpAny (model X.prog X.w) X.A (do bindName X.env n .none; unbindBehindTheSuite X.env n pos1) (fun _ s8 => Q s8) X.xe s7 := fun {σ7 H7 Q} S7 hq => gone_ok (S7.unsuite ok) hN hi hln hq
      cases f with
      | next =>
        obtain ⟨σ7, H7, S7, q7⟩ := hsp
        exact end_ S7 fun s8 J8 => ⟨_, _, J8, q7⟩
      | brk =>
        obtain ⟨σ7, H7, S7, q7⟩ := hsp
        exact end_ S7 fun s8 J8 => ⟨_, _, J8, q7⟩
      | cont =>
        obtain ⟨σ7, H7, S7, q7⟩ := hsp
        exact end_ S7 fun s8 J8 => ⟨_, _, J8, q7⟩
      | ret u =>
        obtain ⟨v7, σ7, H7, S7, r7, q7⟩ := hsp
        exact end_ S7 fun s8 J8 => ⟨_, _, _, J8, r7, q7⟩
    · have eb : bb = false := Option.some.inj (hbb.symm.trans e)
      subst eb
      show wpAny _ X.A (handleBy (.ref a) X.env [.ExceptHandler (some (.Name x3 np3)) (some n) (b2 :: su2) pos2]) _ _ _
      have S4 := J4.suite he4 hd3 na nL nF
      refine wpAny_handleBy_cons (codeAny_handlers_test ?_) (by intro q; cases q)
      have LM2 := PySem.W.exm_one (M := model X.prog X.w) (J4.kIn) LT e2
      refine ld_glob (X := X.suite a ((a, oe3) :: (X.pn ++ pins))) S4 hc3.g hc3.m (LM2.here ?_) hc3.d
      refine codeAny_handlers_suite_as ?_
      refine HandSPX.lands_againZ fl4 fun h5 fl5 up5 => ?_
      have J5 : Inv X pins σ' H' { s' with heap := h5 } := J.landed nb fl5.1 (((up.trans up3).trans up4).trans up5) os ag
      obtain ⟨oe5, vs5, he5, hz5, hd5⟩ := fl5.there
      have S5 := J5.suite he5 hd5 na nL nF
      refine store_ok (X := X.suite a ((a, oe5) :: (X.pn ++ pins))) (v := .ref a) S5 hN hi hloc rfl (fun s6 S6 => ?_) (.inr hln)
      refine wpAny_mono ((hsu2 a oe5 cls d (X.pn ++ pins) hz5 ⟨_, hd5⟩).run [] s6 _ H' _ S6 (hts a na)) (fun f s7 hsp => ?_) (fun _ _ z => False.elim z)
      have end_ : ∀ {σ7 : L2.St} {H7 : Hp} {Q : Shared → Prop}, Inv (X.suite a ((a, oe5) :: (X.pn ++ pins))) [] σ7 H7 s7 → (∀ s8, Inv X pins (σ7.set i none) H7 s8 → Q s8) →
          wpAny (model X.prog X.w) X.A (do bindName X.env n .none; unbindBehindTheSuite X.env n pos2) (fun _ s8 => Q s8) X.xe s7 := fun {σ7 H7 Q} S7 hq => gone_ok (S7.unsuite ok) hN hi hln hq
      cases f with
      | next =>
        obtain ⟨σ7, H7, S7, q7⟩ := hsp
        exact end_ S7 fun s8 J8 => ⟨_, _, J8, q7⟩
      | brk =>
        obtain ⟨σ7, H7, S7, q7⟩ := hsp
        exact end_ S7 fun s8 J8 => ⟨_, _, J8, q7⟩
      | cont =>
        obtain ⟨σ7, H7, S7, q7⟩ := hsp
        exact end_ S7 fun s8 J8 => ⟨_, _, J8, q7⟩
      | ret u =>
        obtain ⟨v7, σ7, H7, S7, r7, q7⟩ := hsp
        exact end_ S7 fun s8 J8 => ⟨_, _, _, J8, r7, q7⟩
  · cases f with
    | next =>
      obtain ⟨σ', H', J', q⟩ := hsp
      exact wpAny_execs_nil ⟨σ', H', J'.ofTry ok, q⟩
    | brk =>
      obtain ⟨σ', H', J', q⟩ := hsp
      exact ⟨σ', H', J'.ofTry ok, q⟩
    | cont =>
      obtain ⟨σ', H', J', q⟩ := hsp
      exact ⟨σ', H', J'.ofTry ok, q⟩
    | ret u =>
      obtain ⟨v, σ', H', J', r, q⟩ := hsp
      exact ⟨v, σ', H', J'.ofTry ok, r, q⟩
end
end G

/-! GOut3: the defs that tell a lambda's answer or error. -/
namespace G
open PySem PySem.Spec L2 PyProof.Rows L2H HotX
open Evl (Ex)
theorem PE.imp {X : Cx} {e : Expr} {t t' : TE} (h : PE X e t) (k : ∀ σ H Q, t' σ H Q → t σ H Q) : PE X e t' := ⟨fun pins s σ H Q I q => h.run pins s σ H Q I (k σ H Q q)⟩
/-- the caught error, by its class and dict -/
def ErrC (K : PySem.W.Frag) (cls : Value) (d : Option Addr) (H : Hp) (x f : Str) (v : V) : Prop := ∃ C dd fs, cls = .ref C ∧ d = some dd ∧ H dd = some (.xd fs) ∧ fs.lookup ("tag" : Str) = some (.str x) ∧ fs.lookup f = some v ∧ XcR K C f
theorem ErrC.at {K : PySem.W.Frag} {cls : Value} {d : Option Addr} {H : Hp} {x f : Str} {v : V} {a : Addr} {oe : Obj} (h : ErrC K cls d H x f v) (hz : L2N.Zn cls d oe) (hd : ∃ vs, oe.data = .fields vs) : ErrAt K (a, oe) H x f v := by
  obtain ⟨C, dd, fs, h1, h2, h3⟩ := h
  exact ⟨C, dd, fs, hz.1.trans h1, hz.2.1.trans h2, hd, h3⟩
/-- the result (k: without the answer) -/
def resK (k : Bool) (Q : VK) (a : V) (t : Str) (v : V) (H : Hp) : Prop := ∀ p, H p = none → if k = true then ∀ p2, upd H p (.tup [a, .str t, v]) p2 = none → Q (.ref p2) (upd (upd H p (.tup [a, .str t, v])) p2 (.tup [.str t, v])) else Q (.ref p) (upd H p (.tup [a, .str t, v]))
def outQ (k : Bool) (Q : VK) : VK := fun v H => resK k Q v "" .non H
def outE (k : Bool) (K : PySem.W.Frag) (c1 c2 c3 : Value) (Q : VK) : XK := fun cls d H => ∃ x f v, ErrC K cls d H x f v ∧
  ((PySem.W.exmAny K cls [c1, c2] = some true ∧ fname x = some f ∧ ∀ H', TupX H H' → resK k Q .non x v H') ∨ (PySem.W.exmAny K cls [c1, c2] = some false ∧ PySem.W.exmOne K cls c3 = some true ∧ resK k Q .non x .non H))

theorem roomHm {k : Nat} {A : Around} (r : Room k A) (h : Option Value) : RoomH k (A.mark h) := ⟨r.dp, r.un⟩
structure OutOk (P : Program) (w : World) (K : PySem.W.Frag) (mg : Str → Option Value) (base : Heap) (k : Nat) (kf : Bool) (c1 c2 c3 : Value) (x : Str) : Prop where
  ex : ∃ g fd, mg x = some (.ref g) ∧ PySem.W.keepIn K (.ref g) = true ∧ L2.Binds K fd ["_law_ask"] [] ∧
    ∀ (A : Around) (stk : List Env) (s : Shared) (H : Hp) (f : Addr) (tl : XK → Hp → VK → Prop) (Q : VK) (j : Nat), Room (j + k) A → Env0 P w K mg base A stk s H → BindsTo s fd ⟨[.ref f], []⟩ [("_law_ask", .ref f)] → LamRun P w K mg base j (frs stk) f s H tl →
      (∀ E H Q, tl E H Q → ∃ t cl, LamAt H t cl f) → (∀ H1, TupX H H1 → ∀ (E : XK) (Q' : VK), (∀ cls d H', outE kf K c1 c2 c3 Q cls d H' → E cls d H') → (∀ v H', outQ kf Q v H' → Q' v H') → tl E H1 Q') →
      codeAny (model P w) A (.call (.ref g) ⟨[.ref f], []⟩) (CR (L2N.CX P w) stk P w H s Q fun _ _ _ => False) s
section
variable {X : Cx} {W : WX} {f a : Addr} {x : Str} {tl : XK → Hp → VK → Prop} {i k : Nat} {q1 q2 q3 : Pos} {c1 c2 c3 : Value} {kf : Bool}
theorem pe_ask (R : LamRun X.prog X.w X.K X.mg X.base k (frs X.outer) f X.s_0 X.H_0 tl) (hex : X.ex = []) (hr : Room (k + 1) X.A) (tk : L2N.Takes X W) (ht : ∀ E H Q, tl E H Q → ∃ t cl, LamAt H t cl f) (hN : X.N[i]? = some x) (hv : Vis X.env.scope x)
    (hd : (x == ("__debug__" : Str)) = false := by decide) (hcd : (x == ("__classdict__" : Str)) = false := by decide) : PE X (.Call (.Name x q1) [] [] q2) (fun σ H Q => σ[i]? = some (some (.ref f)) ∧ tl (WE W σ) H Q) := by
  refine ⟨fun pins s σ H Q I ⟨h0, h1⟩ => ?_⟩
  refine wpAny_Call_Name_kw (thn ((pe_var (pos := q1) (i := i) hN hv hd hcd).run pins s σ H (fun v H1 => v = .ref f ∧ H1 = H) I ⟨.ref f, h0, rfl, rfl⟩) fun u s1 ⟨v, H1, I1, r1, ev, eH⟩ => ?_)
  subst ev eH
  obtain rfl : u = Value.ref f := r1
  obtain ⟨t, cl, c', dV, hf, _⟩ := ht _ _ _ h1
  obtain ⟨⟨pm, ctv, of1⟩, _, _⟩ := I1.hok f _ hf
  refine PySem.W.callWith_F0 ⟨_, _, _, _, of1⟩ ?_
  have un : Un (frs X.outer) [] X.H_0 H1 X.s_0.heap s1.heap := by
    have z := I1.base
    rw [hex] at z
    exact z
  refine wpAny_call (codeAny_mono (R X.A X.stack s1 H1 Q (WE W σ) hr I1.env0 un h1) fun r s' hq => ?_)
  cases r with
  | error e => exact L2N.passAt tk σ pins H1 s1 e s' I1 hq
  | ok fl =>
    cases fl with
    | ret u => exact I1.after hq
    | next => exact False.elim hq
    | brk => exact False.elim hq
    | cont => exact False.elim hq
/-- where such a def is called with a name's value, a lambda that was handed over -/
theorem pe_outv (O : OutOk X.prog X.w X.K X.mg X.base k kf c1 c2 c3 x) {j : Nat} {y : Str} (R : LamRun X.prog X.w X.K X.mg X.base j (frs X.outer) f X.s_0 X.H_0 tl) (hex : X.ex = []) (hstk : X.stack = X.env :: X.outer) (hfr : X.env.frame = some X.env.locals) (hL : X.s_0.heap.get? X.env.locals = none) (hr : Room (j + k) X.A) (ht : ∀ E H Q, tl E H Q → ∃ t cl, LamAt H t cl f)
    (hg : Gl X x) (hN : X.N[i]? = some y) (hv : Vis X.env.scope y) (he : starEach [.Name y q2] X.env = (false, eval (.Name y q2) X.env) :: starEach [] X.env := by rfl) (hdx : (x == ("__debug__" : Str)) = false := by decide)
    (hd : (y == ("__debug__" : Str)) = false := by decide) (hcd : (y == ("__classdict__" : Str)) = false := by decide) :
    PE X (.Call (.Name x q1) [.Name y q2] [] q3) (fun σ H Q => σ[i]? = some (some (.ref f)) ∧ ∀ H1, TupX H H1 → ∀ (E : XK) (Q' : VK), (∀ cls d H', outE kf X.K c1 c2 c3 Q cls d H' → E cls d H') → (∀ v H', outQ kf Q v H' → Q' v H') → tl E H1 Q') := by
  obtain ⟨g, fd, hm, hk, hb, run⟩ := O.ex
  refine ⟨fun pins s σ H Q I ⟨h0, h1⟩ => ?_⟩
  refine wpAny_Call_Name_kw (ld_glob I hg hm ?_ hdx)
  refine PySem.W.callWith_K (h₀ := X.base) I.ok.mod.kin hk (thn ((pa_cons (pe_var (i := i) hN hv hd hcd) pa_nil he).run q3 pins s σ H (fun vs H1 => vs = [.ref f] ∧ H1 = H) I ⟨_, h0, rfl, rfl⟩) fun us s1 ⟨vs, H1, I1, r1, ev, eH⟩ => ⟨I1.kIn, ?_⟩) he (by rfl)
  subst ev eH
  have eu : us = [Value.ref f] := by
    cases r1 with
    | cons r rr =>
      cases rr
      rw [show _ = Value.ref f from r]
  subst eu
  have un : Un (frs X.outer) [] X.H_0 H1 X.s_0.heap s1.heap := by
    have z := I1.base
    rw [hex] at z
    exact z
  have R1 : LamRun X.prog X.w X.K X.mg X.base j (frs X.stack) f s1 H1 tl := by
    have z := R.deep un hL
    have e : frs X.stack = X.env.locals :: frs X.outer := by
      rw [hstk]
      unfold frs
      rw [List.filterMap_cons, hfr]
    rw [e]
    exact z
  have bb := hb s1 [Value.ref f] I1.kIn rfl
  refine wpAny_call (codeAny_mono (run X.A X.stack s1 H1 f tl Q j hr I1.env0 bb R1 ht h1) fun r s' hq => ?_)
  cases r with
  | error e =>
    obtain ⟨_, _, _, _, _, _, _, _, _, _, _, _, z⟩ := hq
    exact z.elim
  | ok fl =>
    cases fl with
    | ret u => exact I1.after hq
    | next => exact False.elim hq
    | brk => exact False.elim hq
    | cont => exact False.elim hq
end
abbrev outN : List Str := ["_law_ask", "_law_answer", "_law_tag", "_law_field_here", "_law_e"]
section
variable {P : Program} {w : World} {K : PySem.W.Frag} {mg : Str → Option Value} {base : Heap} {fF : Addr} {fdF : FuncData} {qual : Str} {params : Arguments} {body : List Stmt} {scope : Scope} {g : Addr} {fd : FuncData} {c1 c2 c3 : Value} {k : Nat}
theorem out_ok {p1 p2 p3 p4 p5 p6 p7 p8 p9 p10 p11 p12 p13 p14 p15 p16 p17 p18 p19 p20 p21 p22 p23 p24 p25 p26 p27 p28 p29 p30 p31 p32 p33 p34 p35 p36 p37 p38 p39 : Pos} (F : FldOk P w K mg base fF fdF) (mF : mg "_law_field" = some (.ref fF)) (kF : PySem.W.keepIn K (.ref fF) = true) (bF : L2.Binds K fdF ["_law_e"] []) (FD : FunD K "_law_outcome" qual params body scope [] [] g fd) (hm : mg "_law_outcome" = some (.ref g)) (S : FnScope outN ["_law_ask"] scope)
    (g1 : scope.names.lookup ("ForestError" : Str) = some .globalImplicit) (g2 : scope.names.lookup ("Missing" : Str) = some .globalImplicit) (g3 : scope.names.lookup ("EmptyHistory" : Str) = some .globalImplicit) (g4 : scope.names.lookup ("_law_field" : Str) = some .globalImplicit)
    (l0 : scope.names.lookup ("_law_ask" : Str) = some .local) (l1 : scope.names.lookup ("_law_answer" : Str) = some .local) (l2 : scope.names.lookup ("_law_tag" : Str) = some .local) (l3 : scope.names.lookup ("_law_field_here" : Str) = some .local) (l4 : scope.names.lookup ("_law_e" : Str) = some .local)
    (m1 : mg "ForestError" = some c1) (m2 : mg "Missing" = some c2) (m3 : mg "EmptyHistory" = some c3) (hbd : L2.Binds K fd ["_law_ask"] [])
    (hw0 : ∀ L f cd, swappedStores [.Tuple [.Name "_law_answer" p1, .Name "_law_tag" p2, .Name "_law_field_here" p3] 0 p4] (.Tuple [.Constant .none 0 p5, .Constant (.str "") 0 p6, .Constant .none 0 p7] 0 p8) (envOfC qual scope L f cd) = pure none)
    (hw1 : ∀ L f cd, swappedStores [.Tuple [.Name "_law_tag" p17, .Name "_law_field_here" p18] 0 p19] (.Tuple [.Attribute (.Name "_law_e" p20) "tag" p21, .Call (.Name "_law_field" p22) [.Name "_law_e" p23] [] p24] 0 p25) (envOfC qual scope L f cd) = pure (some (["_law_tag", "_law_field_here"] : List Str)))
    (hb : body = ([ (.Assign ([ (.Tuple ([ (.Name "_law_answer" p1), (.Name "_law_tag" p2), (.Name "_law_field_here" p3)]) (0) (p4))]) ((.Tuple ([ (.Constant .none 0 p5), (.Constant (.str "") 0 p6), (.Constant .none 0 p7)]) (0) (p8))) (p9)), (.Try ([ (.Assign ([(.Name "_law_answer" p10)]) ((.Call (.Name "_law_ask" p11) [] [] p12)) (p13))]) ([ (.ExceptHandler ((some (.Tuple ([(.Name "ForestError" p14), (.Name "Missing" p15)]) (0) (p16)))) ((some "_law_e")) ([ (.Assign ([ (.Tuple ([(.Name "_law_tag" p17), (.Name "_law_field_here" p18)]) (0) (p19))]) ((.Tuple ([ (.Attribute (.Name "_law_e" p20) "tag" p21), (.Call ((.Name "_law_field" p22)) ([(.Name "_law_e" p23)]) ([]) (p24))]) (0) (p25))) (p26))]) (p27)), (.ExceptHandler ((some (.Name "EmptyHistory" p28))) ((some "_law_e")) ([ (.Assign ([(.Name "_law_tag" p29)]) ((.Attribute (.Name "_law_e" p30) "tag" p31)) (p32))]) (p33))]) ([]) ([]) (p34)), (.Return ((some (.Tuple ([ (.Name "_law_answer" p35), (.Name "_law_tag" p36), (.Name "_law_field_here" p37)]) (0) (p38)))) (p39))])) : OutOk P w K mg base 3 false c1 c2 c3 "_law_outcome" := by
  subst hb
  obtain ⟨oc, od, dV, kV, doc, pm, an, cdv, ct, osl, rfl, lk, hcd, _, _⟩ := FD.ex
  refine ⟨g, _, hm, FD.kp, hbd, fun A stk s H f tl Q j hr e0 hbt R ht h => ?_⟩
  refine LamX.run_ofS (k := j + 2) (N := outN) (ps := ["_law_ask"]) (us := [.ref f]) (vs := [.ref f]) (E := fun _ _ _ => False) lk hcd S hr e0 hbt (.cons rfl .nil) rfl fun hr' => ?_
  have nd := S.nd
  have room1 : Room (j + 1) (A.deeper (envOfC qual scope s.heap.objs.size g cdv)) := hr'.mono (by omega)
  have R' : LamRun P w K mg base j (frs (cxOf (L2N.CX P w) P w K mg base outN qual scope g cdv A stk s H (fun _ _ _ => False)).outer) f (cxOf (L2N.CX P w) P w K mg base outN qual scope g cdv A stk s H (fun _ _ _ => False)).s_0 (cxOf (L2N.CX P w) P w K mg base outN qual scope g cdv A stk s H (fun _ _ _ => False)).H_0 tl := R
  refine ⟨_, pss_cons (ps_asg (pe_tup (pa_cons pe_non (pa_cons pe_str (pa_cons pe_non pa_nil)))) (pg_tup rfl (pgs_cons (pg_name (i := 1) nd rfl (.inl l1)) (pgs_cons (pg_name (i := 2) nd rfl (.inl l2)) (pgs_cons (pg_name (i := 3) nd rfl (.inl l3)) pgs_nil)))) rfl (hw0 _ _ _))
    (pss_cons (ps_tryO (i := 4) (c1 := c1) (c2 := c2) (c3 := c3) (tb := fun W => tAsg (fun σ H Q => σ[0]? = some (some (.ref f)) ∧ tl (WE W σ) H Q) (gName 1))
        (t1 := fun a cls d => tPar 2 3 (tCons (fun σ H Q => tVar 4 σ H fun x H1 => x = .ref a ∧ ∃ C dd fs v, cls = .ref C ∧ d = some dd ∧ H1 dd = some (.xd fs) ∧ fs.lookup ("tag" : Str) = some v ∧ XfC K C ∧ PySem.W.findIn K (.ref C) "tag" = some none ∧ Q v H1)
          (tCons (fun σ H Q => σ[4]? = some (some (.ref a)) ∧ ∃ x f v, ErrC K cls d H x f v ∧ fname x = some f ∧ ∀ H', TupX H H' → Q v H') tNil)))
        (t2 := fun a cls d => tAsg (fun σ H Q => tVar 4 σ H fun x H1 => x = .ref a ∧ ∃ C dd fs v, cls = .ref C ∧ d = some dd ∧ H1 dd = some (.xd fs) ∧ fs.lookup ("tag" : Str) = some v ∧ XfC K C ∧ PySem.W.findIn K (.ref C) "tag" = some none ∧ Q v H1) (gName 2))
        rfl rfl nd rfl l4 ⟨g1, by decide, m1⟩ ⟨g2, by decide, m2⟩ ⟨g3, by decide, m3⟩
        (fun W pn xe tk _ => pss_one (ps_set nd rfl (.inl l1) (pe_ask (i := 0) R' rfl room1 tk ht rfl (.inl l0))))
        (fun a oe cls d pn hz hd => ?s1) (fun a oe cls d pn hz hd => ?s2))
      (pss_one (ps_ret (pe_tup (pa_cons (pe_var (i := 1) rfl (.inl l1)) (pa_cons (pe_var (i := 2) rfl (.inl l2)) (pa_cons (pe_var (i := 3) rfl (.inl l3)) pa_nil))))))), ?_⟩
  case s1 =>
    have hp : ∀ pn : List (Addr × Obj), (a, oe) ∈ ((cxOf (L2N.CX P w) P w K mg base outN qual scope g cdv A stk s H (fun _ _ _ => False)).suite a ((a, oe) :: pn)).pn := fun pn => List.mem_cons_self
    have hot : Hot1 ((cxOf (L2N.CX P w) P w K mg base outN qual scope g cdv A stk s H (fun _ _ _ => False)).suite a ((a, oe) :: pn)).A (a, oe) := by
      obtain ⟨vs, hd⟩ := hd
      exact ⟨rfl, vs, hd, hz.2.2 vs hd⟩
    refine pss_one (ps_parH ⟨(a, oe), hot, hp _⟩ nd rfl rfl (by decide) l2 l3 (pa_cons (PE.imp (pe_xp (p := (a, oe)) (hp _) (pe_var (i := 4) rfl (.inl l4))) ?_) (pa_cons (PE.imp (pe_fld (i := 4) F (roomHm (hr'.mono (by omega)) _) hot (hp _) g4 mF kF bF rfl (.inl l4)) ?_) pa_nil)) (hw1 _ _ _))
    · rintro σ H Q ⟨v, e, ex, C, dd, fs, u, e1, e2, e3, e4, e5, e6, q⟩
      exact ⟨v, e, ex, C, dd, fs, u, hz.1.trans e1, hz.2.1.trans e2, hd, e3, e4, e5, e6, q⟩
    · rintro σ H Q ⟨e, x, f, v, he, hf, q⟩
      exact ⟨e, x, f, v, he.at hz hd, hf, q⟩
  case s2 =>
    have hp : ∀ pn : List (Addr × Obj), (a, oe) ∈ ((cxOf (L2N.CX P w) P w K mg base outN qual scope g cdv A stk s H (fun _ _ _ => False)).suite a ((a, oe) :: pn)).pn := fun pn => List.mem_cons_self
    refine pss_one (ps_set nd rfl (.inl l2) (PE.imp (pe_xp (p := (a, oe)) (hp _) (pe_var (i := 4) rfl (.inl l4))) ?_))
    rintro σ H Q ⟨v, e, ex, C, dd, fs, u, e1, e2, e3, e4, e5, e6, q⟩
    exact ⟨v, e, ex, C, dd, fs, u, hz.1.trans e1, hz.2.1.trans e2, hd, e3, e4, e5, e6, q⟩
  · refine ⟨by show 3 ≤ sizeLine; decide, fun p0 hp0 => ⟨p0, _, rfl, SqT.of upd_same, rfl, .non, _, rfl, .str "", _, rfl, .non, _, rfl, rfl, ?_⟩⟩
    refine ⟨rfl, h _ (TupX.one hp0) _ _ (fun cls d H' he => ?_) (fun v H' hq => ?_)⟩
    · obtain ⟨x, fn, v, ⟨C, dd, fs, e1, e2, e3, e4, e5, e6⟩, hh⟩ := he
      rcases hh with ⟨b1, hf, hq⟩ | ⟨b1, b2, hq⟩
      · refine .inl ⟨b1, fun a ha => ⟨.ref a, rfl, rfl, C, dd, fs, .str x, e1, e2, e3, e4, e6.r, e6.tg, rfl, x, fn, v, ⟨C, dd, fs, e1, e2, e3, e4, e5, e6⟩, hf, fun H2 x2 => ⟨.str x, v, rfl, .non, rfl, .str x, rfl, v, rfl, by show 3 ≤ sizeLine; decide, fun pp hpp => ?_⟩⟩⟩
        exact hq H2 x2 pp hpp
      · refine .inr ⟨b1, b2, fun a ha => ⟨.ref a, rfl, rfl, C, dd, fs, .str x, e1, e2, e3, e4, e6.r, e6.tg, .non, rfl, .str x, rfl, .non, rfl, by show 3 ≤ sizeLine; decide, fun pp hpp => ?_⟩⟩
        exact hq pp hpp
    · exact ⟨v, rfl, .str "", rfl, .non, rfl, by show 3 ≤ sizeLine; decide, fun pp hpp => hq pp hpp⟩
theorem err_ok {p1 p2 p3 p4 p5 p6 p7 : Pos} (O : OutOk P w K mg base k false c1 c2 c3 "_law_outcome") (FD : FunD K "_law_error" qual params body scope [] [] g fd) (hm : mg "_law_error" = some (.ref g)) (S : FnScope ["_law_ask"] ["_law_ask"] scope)
    (g1 : scope.names.lookup ("_law_outcome" : Str) = some .globalImplicit) (l0 : scope.names.lookup ("_law_ask" : Str) = some .local) (hbd : L2.Binds K fd ["_law_ask"] []) (hb : body = ([ (.Return ((some (.Subscript ((.Call ((.Name "_law_outcome" p1)) ([(.Name "_law_ask" p2)]) ([]) (p3))) ((.Slice (some (.Constant (.int 1) 0 p4)) none none (p5))) (p6)))) (p7))])) : OutOk P w K mg base (k + 1) true c1 c2 c3 "_law_error" := by
  subst hb
  obtain ⟨oc, od, dV, kV, doc, pm, an, cdv, ct, osl, rfl, lk, hcd, _, _⟩ := FD.ex
  refine ⟨g, _, hm, FD.kp, hbd, fun A stk s H f tl Q j hr e0 hbt R ht h => ?_⟩
  refine LamX.run_ofS (k := j + k) (N := ["_law_ask"]) (ps := ["_law_ask"]) (us := [.ref f]) (vs := [.ref f]) (E := fun _ _ _ => False) lk hcd S hr e0 hbt (.cons rfl .nil) rfl fun hr' => ?_
  have R' : LamRun P w K mg base j (frs (cxOf (L2N.CX P w) P w K mg base ["_law_ask"] qual scope g cdv A stk s H (fun _ _ _ => False)).outer) f (cxOf (L2N.CX P w) P w K mg base ["_law_ask"] qual scope g cdv A stk s H (fun _ _ _ => False)).s_0 (cxOf (L2N.CX P w) P w K mg base ["_law_ask"] qual scope g cdv A stk s H (fun _ _ _ => False)).H_0 tl := R
  refine ⟨_, pss_one (ps_ret (pe_slice sl_tup (pe_outv (i := 0) O R' rfl rfl rfl (Heap.get?_none_of_le (Nat.le_refl _)) hr' ht g1 rfl (.inl l0)) (po_some pe_int) po_none)), ?_⟩
  refine ⟨rfl, fun H1 x1 E Q' hE hQ => h H1 x1 E Q' (fun cls d H' he => hE cls d H' ?_) (fun v H' hq => hQ v H' ?_)⟩
  · obtain ⟨x, fn, v, ec, hh⟩ := he
    refine ⟨x, fn, v, ec, ?_⟩
    rcases hh with ⟨b1, hf, hq⟩ | ⟨b1, b2, hq⟩
    · refine .inl ⟨b1, hf, fun H2 x2 pp hpp => ?_⟩
      have z := hq H2 x2 pp hpp
      rw [if_pos rfl] at z
      rw [if_neg Bool.false_ne_true]
      exact ⟨1, rfl, pp, [.non, .str x, v], rfl, SqT.of upd_same, by simp [HT.sIx], fun p2 hp2 => z p2 hp2⟩
    · refine .inr ⟨b1, b2, fun pp hpp => ?_⟩
      have z := hq pp hpp
      rw [if_pos rfl] at z
      rw [if_neg Bool.false_ne_true]
      exact ⟨1, rfl, pp, [.non, .str x, .non], rfl, SqT.of upd_same, by simp [HT.sIx], fun p2 hp2 => z p2 hp2⟩
  · intro pp hpp
    have z := hq pp hpp
    rw [if_pos rfl] at z
    rw [if_neg Bool.false_ne_true]
    exact ⟨1, rfl, pp, [v, .str "", .non], rfl, SqT.of upd_same, by simp [HT.sIx], fun p2 hp2 => z p2 hp2⟩
end
end G

/-! GOut4: what calling a lambda comes to, in the core. -/
namespace G
open PySem PySem.Spec L2 PyProof.Rows L2H HotX
open Evl (Ex)
/-- what the written part says of the error classes -/
structure Errs (K : PySem.W.Frag) (mg : Str → Option Value) (c1 c2 c3 : Value) : Prop where
  ok : ∀ t f C, fname t = some f → mg t = some (.ref C) → PySem.W.exmAny K (.ref C) [c1, c2] = some true ∧ XcR K C f
  ok0 : ∀ C, mg "EmptyHistory" = some (.ref C) → PySem.W.exmAny K (.ref C) [c1, c2] = some false ∧ PySem.W.exmOne K (.ref C) c3 = some true ∧ XcR K C "tag"
section
variable {K : PySem.W.Frag} {wd : Wd} {F H H' : Hp} {cs : Cs}
theorem Rl.more (R : Rl K wd F cs H) (x : TupX H H') : Rl K wd F cs H' := by
  refine ⟨R.b.trans x.ex, R.f.trans x.ex, R.bf, R.inj, fun n o e => ?_, fun n a e => ?_, R.top, R.rf, R.fe, fun p hp => ?_, R.bt⟩
  · obtain ⟨a, u, e1, e2, e3, e4, e5⟩ := R.cell n o e
    exact ⟨a, u, e1, e2, e3, x.ex _ _ e4, e5⟩
  · obtain ⟨o, h1, h2⟩ := R.ran n a e
    exact ⟨o, x.ex _ _ h1, h2⟩
  · obtain ⟨ps, h1, h2⟩ := R.tab p hp
    exact ⟨ps, x.ex _ _ h1, h2⟩
theorem resK_of {kf : Bool} {P : KD} {Q : VK} {a d : D} {t : Str} {va vd : V} (R : Rl K wd F cs H) (ra : Rp K wd a va) (rd : Rp K wd d vd) (q : QOk K wd F P Q) (h : P (outD kf a t d) cs) : resK kf Q va t vd H := by
  intro p hp
  obtain ⟨wd1, l1, R1, r1⟩ := R.tup hp (ds := [a, .str t, d]) (vs := [va, .str t, vd]) ⟨_, _, rfl, ra, _, _, rfl, rfl, _, _, rfl, rd, rfl⟩
  cases kf with
  | false =>
    rw [if_neg Bool.false_ne_true]
    exact q wd1 _ cs _ _ l1 R1 r1 h
  | true =>
    rw [if_pos rfl]
    intro p2 hp2
    obtain ⟨wd2, l2, R2, r2⟩ := R1.tup hp2 (ds := [.str t, d]) (vs := [.str t, vd]) ⟨_, _, rfl, rfl, _, _, rfl, rd.mono l1, rfl⟩
    exact q wd2 _ cs _ _ (l1.trans l2) R2 r2 h
end
/-- a body's reading by its core term -/
def tCore (K : PySem.W.Frag) (mg : Str → Option Value) (c : E) (EE : XK) : TE := fun σ H Q => ∃ wd F τ cs P PX, Rl K wd F cs H ∧ RS K wd τ σ ∧ wpE c τ cs P PX ∧ QOk K wd F P Q ∧
  ∀ wd' x cs' cls dd H', wd.le wd' → Rl K wd' F cs' H' → RpX K mg wd' x cls dd → PX x cs' → EE cls dd H'
theorem tCore_pe {X : Cx} {e : Expr} {c : E} {EE : XK} (h : JE X (wxOf EE) e c) : PE X e (tCore X.K X.mg c EE) := by
  obtain ⟨te, p, r⟩ := h
  refine PE.imp p fun σ H Q ⟨wd, F, τ, cs, P, PX, R, rs, hw, q, x⟩ => ?_
  exact r wd F τ cs σ H P PX Q R rs hw q x
theorem lam_ct {X : Cx} {A : Around} {outer : List Env} {s : Shared} {H : Hp} {EE : XK} {scope : Scope} {f c' : Addr} {j : Nat} (hN : X.N.Nodup) (hr : Room j (A.deeper (LamX.lamEnv X scope s.heap.objs.size f c'))) : Ct (lamX X A outer s H EE scope f c') (wxOf EE) j :=
  ⟨rfl, hN, passes_of rfl, L2N.takes_of rfl rfl rfl rfl, hr⟩
theorem isEr_rp {K : PySem.W.Frag} {mg : Str → Option Value} {c1 c2 c3 : Value} (E : Errs K mg c1 c2 c3) {wd : Wd} {F H : Hp} {cs : Cs} {x : Er} {d : D} {cls : Value} {dd : Option Addr} {kf : Bool} {P : KD} {Q : VK} (R : Rl K wd F cs H) (rx : RpX K mg wd x cls dd) (hx : IsEr x d) (q : QOk K wd F P Q) (h : P (outD kf .non x.tag d) cs) : outE kf K c1 c2 c3 Q cls dd H := by
  obtain ⟨C, a, vs, hm, ec, ed, hB, hn, hv⟩ := rx
  have hH := R.b _ _ hB
  rcases hx with ⟨f, hf, ex⟩ | ⟨ex, e⟩
  · obtain ⟨T1, T2⟩ := E.ok x.tag f C hf hm
    obtain ⟨v1, v2, rd, hvs⟩ : ∃ v1 v2, (Rp K wd d v1 ∧ v2 = V.str x.tag) ∧ vs = [(f, v1), ("tag", v2)] := by
      have e1 : x.fs = [(f, d), ("tag", D.str x.tag)] := by rw [ex]; rfl
      rw [e1] at hn hv
      match vs, hn, hv with
      | [(n1, w1), (n2, w2)], hn, hv =>
        obtain ⟨a1, r1, q1, q2, a2, r2, q3, q4, q5⟩ := hv
        simp only [List.map_cons, List.map_nil, List.cons.injEq, and_true] at hn q1
        obtain ⟨h1, h2⟩ := hn
        obtain ⟨z1, z2⟩ := q1
        subst h1 h2 z1
        rw [q3] at z2
        simp only [List.cons.injEq] at z2
        obtain ⟨z2, _⟩ := z2
        subst z2
        exact ⟨_, _, ⟨q2, q4⟩, rfl⟩
      | [], hn, _ => simp at hn
      | [_], hn, _ => simp at hn
      | _ :: _ :: _ :: _, hn, _ => simp at hn
    obtain ⟨rd, e2⟩ := rd
    subst hvs e2
    have ft : (("tag" : Str) == f) = false := by
      unfold fname at hf
      repeat' split at hf
      all_goals first | (cases hf; decide) | cases hf
    refine ⟨x.tag, f, v1, ⟨C, a, _, ec, ed, hH, ?_, ?_, T2⟩, .inl ⟨by rw [ec]; exact T1, hf, fun H' x' => resK_of (a := .non) (d := d) (R.more x') rfl rd q h⟩⟩
    · simp [List.lookup, ft]
    · simp [List.lookup]
  · subst e
    have et : x.tag = "EmptyHistory" := by rw [ex]; rfl
    obtain ⟨T1, T2, T3⟩ := E.ok0 C (by rw [← et]; exact hm)
    have hvs : vs = [(("tag" : Str), V.str x.tag)] := by
      have e1 : x.fs = [(("tag" : Str), D.str x.tag)] := by rw [ex]; rfl
      rw [e1] at hn hv
      match vs, hn, hv with
      | [(n1, w1)], hn, hv =>
        obtain ⟨a1, r1, q1, q2, q3⟩ := hv
        simp only [List.map_cons, List.map_nil, List.cons.injEq, and_true] at hn q1
        obtain ⟨z1, z2⟩ := q1
        subst hn z1
        rw [show w1 = V.str x.tag from q2]
      | [], hn, _ => simp at hn
      | _ :: _ :: _, hn, _ => simp at hn
    subst hvs
    refine ⟨x.tag, "tag", .str x.tag, ⟨C, a, _, ec, ed, hH, ?_, ?_, T3⟩, .inr ⟨by rw [ec]; exact T1, by rw [ec]; exact T2, resK_of (a := .non) (d := .non) R rfl rfl q h⟩⟩
    · simp [List.lookup]
    · simp [List.lookup]
section
variable {X : Cx} {W : WX} {t : LamT} {pos lpos p : Pos} {kf : Bool} {c1 c2 c3 : Value} {x : Str} {k j : Nat} {c : E}
theorem LamAt.mono {H H' : Hp} {cl : List (Str × Addr)} {f : Addr} (h : LamAt H t cl f) (e : Ex H H') : LamAt H' t cl f := by
  obtain ⟨c, dV, h1, h2, h3⟩ := h
  exact ⟨c, dV, e _ _ h1, e _ _ h2, h3.imp id fun ⟨n, p, e1, e2⟩ => ⟨n, p, e1, e _ _ e2⟩⟩
def outPost (X : Cx) (t : LamT) (c : E) (kf : Bool) (c1 c2 c3 : Value) (σ : L2.St) (Q : VK) : List V → Hp → Prop := fun vs H1 => ∃ f, vs = [.ref f] ∧ ∀ H2, TupX H1 H2 → ∀ (EE : XK) (Q' : VK), (∀ cls d H', outE kf X.K c1 c2 c3 Q cls d H' → EE cls d H') → (∀ v H', outQ kf Q v H' → Q' v H') → LamAt H2 t (cloFrom X.env.cells t.scope.names []) f ∧ tCore X.K X.mg c EE σ H2 Q'
/-- told(lambda: body) -/
theorem j_out (O : OutOk X.prog X.w X.K X.mg X.base k kf c1 c2 c3 x) (ER : Errs X.K X.mg c1 c2 c3) (LC : LamC X t.q) (LN : LamN X.N X.env.scope t.scope) (LB : LamBind t) (hN : X.N.Nodup) (hr : Room (j + k) X.A) (tk : L2N.Takes X W) (hg : Gl X x)
    (hdef : (t.dfl = [] ∧ defaultsOf t.params X.env = ([], [])) ∨ ∃ i j pc, t.dfl = [i] ∧ defaultsOf t.params X.env = ([eval (.Constant (.int i) j pc) X.env], []))
    (hbody : ∀ (A : Around) (outer : List Env) (s : Shared) (H : Hp) (EE : XK) (f c' : Addr), Ct (lamX X A outer s H EE t.scope f c') (wxOf EE) j → JE (lamX X A outer s H EE t.scope f c') (wxOf EE) t.body c)
    (hdx : (x == ("__debug__" : Str)) = false := by decide) (he : starEach [.Lambda t.params t.body t.scope lpos] X.env = (false, eval (.Lambda t.params t.body t.scope lpos) X.env) :: starEach [] X.env := by rfl) :
    JE X W (.Call (.Name x p) [.Lambda t.params t.body t.scope lpos] [] pos) (.out kf c) := by
  obtain ⟨g, fd, hm, hk, hb, run⟩ := O.ex
  obtain ⟨tl, pl, rl⟩ := j_lam (W := W) (pos := lpos) 0 LC (fun ok => LN.has ok) hdef
  refine ⟨fun σ H Q => tCons tl tNil σ H (outPost X t c kf c1 c2 c3 σ Q), ⟨fun pins s σ H Q I h => ?_⟩, fun wd F τ cs σ H P PX Q R rs hw q xx => ?_⟩
  · refine wpAny_Call_Name_kw (ld_glob I hg hm ?_ hdx)
    refine PySem.W.callWith_K (h₀ := X.base) I.ok.mod.kin hk (thn ((pa_cons pl pa_nil he).run pos pins s σ H _ I h) fun us s1 ⟨vs, H1, I1, r1, f, ev, h1⟩ => ⟨I1.kIn, ?_⟩) he (by rfl)
    subst ev
    have eu : us = [Value.ref f] := by
      cases r1 with
      | cons r rr =>
        cases rr
        rw [show _ = Value.ref f from r]
    subst eu
    have R1 := lam_run (k := j) (te := fun E => tCore X.K X.mg c E) I1 LN LB LC.qn (fun A outer s H EE f c' hr hd => tCore_pe (hbody A outer s H EE f c' (lam_ct hN hr))) f
    have bb := hb s1 [Value.ref f] I1.kIn rfl
    refine wpAny_call (codeAny_mono (run X.A X.stack s1 H1 f (fun E H1 Q => LamAt H1 t (cloFrom X.env.cells t.scope.names []) f ∧ tCore X.K X.mg c E σ H1 Q) Q j hr I1.env0 bb R1 (fun E H Q h => ⟨t, _, h.1⟩) h1) fun r s' hq => ?_)
    cases r with
    | error e =>
      obtain ⟨_, _, _, _, _, _, _, _, _, _, _, _, z⟩ := hq
      exact z.elim
    | ok fl =>
      cases fl with
      | ret u => exact I1.after hq
      | next => exact False.elim hq
      | brk => exact False.elim hq
      | cont => exact False.elim hq
  · have hw : wpE c τ cs (fun d c1 => P (outD kf d "" .non) c1) (fun x c1 => ∃ d, IsEr x d ∧ P (outD kf .non x.tag d) c1) := hw
    refine rl wd F τ cs σ H (fun d c1 => d = .clo 0 t X.env.cells ∧ c1 = cs) PX _ R rs ⟨rfl, rfl⟩ (fun wd1 d c1 v H1 l1 R1 rv hd => ?_) xx
    obtain ⟨hd, hc⟩ := hd
    subst hd hc
    obtain ⟨f, c', dV, ev, b1, b2, b3⟩ := rv
    refine ⟨f, by rw [ev], fun H2 x2 EE Q' hE hQ => ?_⟩
    have R2 := R1.more x2
    refine ⟨⟨c', dV, R2.b _ _ b1, R2.b _ _ b2, b3.imp id fun ⟨n, p, e1, e2⟩ => ⟨n, p, e1, R2.b _ _ e2⟩⟩, ?_⟩
    have qq := q.mono l1
    refine ⟨wd1, F, τ, _, _, _, R2, rs.mono l1, hw, fun wd2 d c2 v H3 l2 R3 rd hp => hQ _ _ (resK_of (d := .non) R3 rd rfl (qq.mono l2) hp), fun wd2 x c2 cls dd H3 l2 R3 rx hx => hE _ _ _ ?_⟩
    obtain ⟨d, hi, hp⟩ := hx
    exact isEr_rp ER R3 rx hi (qq.mono l2) hp
end
end G

/-! GTop: from facts of the top to error classes, lambdas' tables, defs' promises. -/
namespace G
open PySem PySem.Spec L2 PyProof.Rows
theorem takesN {X : Cx} : L2N.Takes X (fun _ _ _ _ => False) := fun _ _ x => by
  obtain ⟨_, _, _, _, _, _, _, _, _, _, _, _, _, _, _, _, z⟩ := x
  exact z.elim
section
variable {P : Program} {w : World} {K : PySem.W.Frag} {mg : Str → Option Value} {base : Heap} {x qual : Str} {params : Arguments} {body : List Stmt} {scope : Scope} {f : Addr} {fd : FuncData} {ps ks : List Str} {k n : Nat} {sp : Spec} {ix : List Nat}
theorem fn_mkB (FD : FunD K x qual params body scope [] [] f fd) (hm : mg x = some (.ref f)) (ok : FnOk P w K mg base (L2N.CX P w) k f fd ps (lift K mg sp)) (hb : L2.Binds K fd ps []) : Fn P w K mg base x k ps.length sp :=
  ⟨f, fd, ps, rfl, hm, ok, FD.kp, hb⟩
end
/-! ### the error classes -/
def clsRB (K : PySem.W.Frag) (x f : Str) : Bool := xfB K (He.ga K x) && (decide (PySem.W.findIn K (.ref (He.ga K x)) "tag" = some none) && decide (PySem.W.findIn K (.ref (He.ga K x)) f = some none))
theorem clsRB_ok {K : PySem.W.Frag} {x f : Str} (h : clsRB K x f = true) : XcR K (He.ga K x) f := by
  unfold clsRB at h
  simp only [Bool.and_eq_true, decide_eq_true_eq] at h
  exact ⟨xfB_ok h.1, h.2.1, h.2.2⟩
def clsCB (K : PySem.W.Frag) (x f : Str) : Bool := xcB K (He.ga K x) && (decide (PySem.W.findIn K (.ref (He.ga K x)) "tag" = some none) && (decide (PySem.W.findIn K (.ref (He.ga K x)) f = some none) &&
  (decide (PySem.W.findIn K (.ref (He.ga K x)) "__init__" = some (some (.ref (He.ma K (He.ga K x) "__init__")))) && decide (PySem.W.typeIn K (.ref (He.ma K (He.ga K x) "__init__")) = some (.type "function")))))
section
variable {P : Program} {w : World} {K : PySem.W.Frag} {mg : Str → Option Value} {base : Heap} {x qual f pn : Str} {params : Arguments} {scope : Scope} {fd : FuncData} {p1 p2 p3 p4 p5 p6 p7 p8 p9 : Pos} {j k1 k2 : Nat} {body : List Stmt}
theorem xc_of (h : clsCB K x f = true) (hm : mg x = some (.ref (He.ga K x))) (FD : FunD K "__init__" qual params body scope [] [] (He.fAd K (x, some "__init__")) fd) (S : FnScope ["self", pn] ["self", pn] scope)
    (hv : scope.names.lookup ("self" : Str) = some .local) (hv2 : scope.names.lookup pn = some .local) (hb : body = [.Assign [.Tuple [.Attribute (.Name "self" p1) "tag" p2, .Attribute (.Name "self" p3) f p4] k1 p5] (.Tuple [.Constant (.str x) j p6, .Name pn p7] k2 p8) p9])
    (bd : L2.Binds K fd ["self", pn] []) (hd : (pn == ("__debug__" : Str)) = false := by decide) (hcd : (pn == ("__classdict__" : Str)) = false := by decide) : Xc P w K mg base x f := by
  unfold clsCB at h
  simp only [Bool.and_eq_true, decide_eq_true_eq] at h
  obtain ⟨h1, h2, h3, h4, h5⟩ := h
  exact ⟨_, _, fd, _, hm, ⟨xcB_ok h1, h2, h3⟩, h4, h5, ini_ok FD S hv hv2 hb hd hcd, bd⟩
theorem xc0_of (h : clsCB K x "tag" = true) (hm : mg x = some (.ref (He.ga K x))) (FD : FunD K "__init__" qual params body scope [] [] (He.fAd K (x, some "__init__")) fd) (S : FnScope ["self"] ["self"] scope)
    (hv : scope.names.lookup ("self" : Str) = some .local) (hb : body = [.Assign [.Attribute (.Name "self" p1) "tag" p2] (.Constant (.str x) j p6) p9])
    (bd : L2.Binds K fd ["self"] []) : Xc0 P w K mg base x := by
  unfold clsCB at h
  simp only [Bool.and_eq_true, decide_eq_true_eq] at h
  obtain ⟨h1, h2, h3, h4, h5⟩ := h
  exact ⟨_, _, fd, _, hm, ⟨xcB_ok h1, h2, h3⟩, h4, h5, ini0_ok FD S hv hb, bd⟩
end
def errTags : List (Str × Str) := [("BadParent", "node"), ("Cycle", "node"), ("NotRoot", "node"), ("SameRoot", "node"), ("RootsDiffer", "node"), ("NoWay", "node"), ("BadWeight", "node"), ("NoNode", "node"), ("TooManyNodes", "limit"), ("TooLong", "limit"), ("TooManyForests", "limit"), ("TooManyWatches", "limit"),
  ("BadStep", "pos"), ("BadCost", "pos"), ("Contradiction", "pos"), ("ParseError", "pos"), ("SizesDiffer", "size"), ("BadSize", "size"), ("BadName", "name"), ("NameTaken", "name"), ("NoForest", "name"), ("BadCommand", "word"), ("BadCount", "count"), ("NoWatch", "number")]
theorem errTags_ok {t f : Str} (h : fname t = some f) : (t, f) ∈ errTags := by
  unfold fname at h
  have go : ∀ (ts : List Str) (g : Str), t ∈ ts → (ts.all fun u => decide ((u, g) ∈ errTags)) = true → (t, g) ∈ errTags := fun ts g hm ha => of_decide_eq_true (List.all_eq_true.mp ha t hm)
  split at h
  · cases h; exact go _ _ (by assumption) (by decide)
  split at h
  · cases h; exact go _ _ (by assumption) (by decide)
  split at h
  · cases h; exact go _ _ (by assumption) (by decide)
  split at h
  · cases h; exact go _ _ (by assumption) (by decide)
  split at h
  · cases h; exact go _ _ (by assumption) (by decide)
  split at h
  · rename_i e; cases h; rw [e]; decide
  split at h
  · rename_i e; cases h; rw [e]; decide
  split at h
  · rename_i e; cases h; rw [e]; decide
  cases h
def gloB (K : PySem.W.Frag) (x : Str) : Bool := decide (PySem.W.nsIn K mainGlobals x = some (some (.ref (He.ga K x))))
def exCs (K : PySem.W.Frag) : List Value := [.ref (He.ga K "ForestError"), .ref (He.ga K "Missing")]
def errsB (K : PySem.W.Frag) : Bool := (errTags.all fun q => decide (PySem.W.nsIn K mainGlobals q.1 = some none) || (gloB K q.1 && (clsRB K q.1 q.2 && decide (PySem.W.exmAny K (.ref (He.ga K q.1)) (exCs K) = some true)))) &&
  (gloB K "ForestError" && (gloB K "Missing" && (gloB K "EmptyHistory" && (clsRB K "EmptyHistory" "tag" && (decide (PySem.W.exmAny K (.ref (He.ga K "EmptyHistory")) (exCs K) = some false) && decide (PySem.W.exmOne K (.ref (He.ga K "EmptyHistory")) (.ref (He.ga K "EmptyHistory")) = some true))))))
section
variable {K : PySem.W.Frag} {h : Heap} {mg : Str → Option Value}
theorem glob_ok (X : K.In h) (G : h.Ns mainGlobals mg) {x : Str} (c : gloB K x = true) : mg x = some (.ref (He.ga K x)) := PySem.W.mg_of X G (of_decide_eq_true c)
theorem errs_ok (X : K.In h) (G : h.Ns mainGlobals mg) (c : errsB K = true) : Errs K mg (.ref (He.ga K "ForestError")) (.ref (He.ga K "Missing")) (.ref (He.ga K "EmptyHistory")) := by
  unfold errsB at c
  simp only [Bool.and_eq_true, List.all_eq_true, Bool.or_eq_true, decide_eq_true_eq] at c
  obtain ⟨c1, c2, c3, c4, c5, c6, c7⟩ := c
  refine ⟨fun t f C hf hm => ?_, fun C hm => ?_⟩
  · rcases c1 _ (errTags_ok hf) with z | ⟨z1, z2, z3⟩
    · rw [show mg t = none from PySem.W.mg_none_of X G z] at hm
      cases hm
    · rw [show mg t = _ from glob_ok X G z1] at hm
      cases hm
      exact ⟨z3, clsRB_ok z2⟩
  · rw [show mg "EmptyHistory" = _ from glob_ok X G c4] at hm
    cases hm
    exact ⟨c6, c7, clsRB_ok c5⟩
theorem errsB_glo (X : K.In h) (G : h.Ns mainGlobals mg) (c : errsB K = true) : mg "ForestError" = some (.ref (He.ga K "ForestError")) ∧ mg "Missing" = some (.ref (He.ga K "Missing")) ∧ mg "EmptyHistory" = some (.ref (He.ga K "EmptyHistory")) := by
  unfold errsB at c
  simp only [Bool.and_eq_true] at c
  exact ⟨glob_ok X G c.2.1, glob_ok X G c.2.2.1, glob_ok X G c.2.2.2.1⟩
end
/-! ### lambdas' tables -/
def tabsU (K : PySem.W.Frag) : Bool := (tabsOf K).all fun p => (tabsOf K).all fun r => !(p.1 == r.1) || decide (p.2 = r.2)
/-- what is known of the table of a def's code object -/
structure LamK (K : PySem.W.Frag) (mg : Str → Option Value) (base : Heap) (cdv : Value) (qual : Str) : Prop where
  ex : ∃ c P, LamX.TabB base mg c P ∧ cdv = .ref c ∧ (P, qual ++ ".<locals>." ++ "<lambda>") ∈ tabsOf K ∧ ∀ p ∈ tabsOf K, p.1 = P → p.2 = qual ++ ".<locals>." ++ "<lambda>"
theorem LamK.c {X : Cx} {q : Str} (L : LamK X.K X.mg X.base X.env.code q) (h : X.env.qual = q ++ ".<locals>.") : LamC X (q ++ ".<locals>." ++ "<lambda>") := ⟨L.ex, by rw [h]⟩
theorem mem_of_lk {a : Addr} {o : Obj} : ∀ {K : PySem.W.Frag}, K.lookup a = some o → (a, o) ∈ K := fun {K} e => by
  induction K with
  | nil => cases e
  | cons q r ih =>
    obtain ⟨b, u⟩ := q
    rw [List.lookup_cons] at e
    cases hb : (a == b) with
    | true =>
      rw [hb] at e
      have := beq_iff_eq.mp hb
      subst this
      cases e
      exact List.mem_cons_self
    | false =>
      rw [hb] at e
      exact List.mem_cons_of_mem _ (ih e)
section
variable {P : Program} {w : World} {K : PySem.W.Frag} {mg : Str → Option Value} {base : Heap} {x qual : Str} {params : Arguments} {body : List Stmt} {scope : Scope} {dvs : List V} {kws : List (Str × V)} {p : Str × Option Str} {fd : FuncData} {N ps : List Str} {k : Nat} {sp : Spec} {core : S}
theorem fnOk_ofC (FD : FunD K x qual params body scope dvs kws (He.fAd K p) fd) (S : FnScope N ps scope)
    (len : ∀ ds cs Q PX, sp ds cs Q PX → ds.length = ps.length) (hU : tabsU K = true) (hO : K.lookup (He.cT K p).2 = none) (hT : LamX.TabB base mg (He.cT K p).1 (He.cT K p).2)
    (hb : ∀ (cdv : Value) (A : Around) (outer : List Env) (s : Shared) (H : Hp) (E : XK), LamK K mg base cdv qual → Ct (cxOf (L2N.CX P w) P w K mg base N qual scope (He.fAd K p) cdv A outer s H E) (wxOf E) k → JSs (cxOf (L2N.CX P w) P w K mg base N qual scope (He.fAd K p) cdv A outer s H E) (wxOf E) body core)
    (ok : okFnL N.length core sp) : FnOk P w K mg base (L2N.CX P w) (k + 1) (He.fAd K p) fd ps (lift K mg sp) := by
  obtain ⟨oc, od, dV, kV, doc, pm, an, cdv, ct, osl, rfl, lk, hcd, _, _⟩ := FD.ex
  refine fn_of lk hcd S (fun vs H Q E h => ?_) fun A outer s H vs Q E hr h => ?_
  · obtain ⟨wd, F, cs, ds, PD, PX, R, r, s, q⟩ := h
    rw [r.length]
    exact len _ _ _ _ s
  · obtain ⟨wd, F, cs, ds, PD, PX, R, r, hs, q, xx⟩ := h
    obtain ⟨c, ec⟩ := He.codeIn_ref hcd
    have e1 : He.codeOf K p = c := He.codeOf_eq lk ec
    have hmem : (He.tabOf K c, qual ++ ".<locals>." ++ "<lambda>") ∈ tabsOf K := by
      refine List.mem_filterMap.mpr ⟨_, mem_of_lk lk, ?_⟩
      have hO' : K.lookup (He.tabOf K c) = none := by
        rw [← e1]
        exact hO
      show (match (PySem.W.fnOf x qual params body scope dV kV doc pm an cdv ct).code with
        | .ref c => if (K.lookup (He.tabOf K c)).isNone then some (He.tabOf K c, (PySem.W.fnOf x qual params body scope dV kV doc pm an cdv ct).qualname ++ ".<locals>." ++ "<lambda>") else none
        | _ => none) = _
      have e2 : (PySem.W.fnOf x qual params body scope dV kV doc pm an cdv ct).code = .ref c := ec
      rw [e2]
      show (if (K.lookup (He.tabOf K c)).isNone then some (He.tabOf K c, qual ++ ".<locals>." ++ "<lambda>") else none) = _
      rw [hO']
      rfl
    have LK : LamK K mg base cdv qual := by
      refine ⟨c, He.tabOf K c, ?_, ec, hmem, fun r hr h => ?_⟩
      · have hT : LamX.TabB base mg (He.codeOf K p) (He.tabOf K (He.codeOf K p)) := hT
        rw [e1] at hT
        exact hT
      · have z := List.all_eq_true.mp (List.all_eq_true.mp hU _ hr) _ hmem
        simp only [Bool.or_eq_true, Bool.not_eq_true', decide_eq_true_eq] at z
        rcases z with z | z
        · rw [h] at z
          simp at z
        · exact z
    obtain ⟨t, p1, r1⟩ := hb cdv A outer s H E LK ⟨rfl, S.nd, passes_of rfl, L2N.takes_of rfl rfl rfl rfl, hr⟩
    refine ⟨t, p1, ?_⟩
    exact r1 wd F _ cs _ H _ _ R (rs_start r) (ok ds cs PD PX hs) ⟨fun wd' τ cs' σ H' l R' rs' ⟨c, le, h'⟩ => q wd' .non c .non H' l (R'.less le) rfl h', fun _ _ _ _ _ _ _ _ z => z.elim, fun _ _ _ _ _ _ _ _ z => z.elim, fun wd' d cs' v H' l R' rv ⟨c, le, h'⟩ => q wd' d c v H' l (R'.less le) rv h', fun wd' y τ cs' σ cls dd H' l R' rs' rx ⟨c, le, z⟩ => xx wd' y c cls dd H' l (R'.less le) rx z⟩
theorem fnOk_ofC0 (FD : FunD K x qual params body scope dvs kws (He.fAd K p) fd) (S : FnScope N ps scope)
    (len : ∀ ds cs Q PX, sp ds cs Q PX → ds.length = ps.length) (hU : tabsU K = true) (hO : K.lookup (He.cT K p).2 = none) (hT : LamX.TabB base mg (He.cT K p).1 (He.cT K p).2)
    (hb : ∀ (cdv : Value) (A : Around) (outer : List Env) (s : Shared) (H : Hp) (E : XK), LamK K mg base cdv qual → Ct (cxOf (L2N.CX P w) P w K mg base N qual scope (He.fAd K p) cdv A outer s H E) (wxOf E) k → JSs (cxOf (L2N.CX P w) P w K mg base N qual scope (He.fAd K p) cdv A outer s H E) (wxOf E) body core)
    (ok : okFn N.length core sp) : FnOk P w K mg base (L2N.CX P w) (k + 1) (He.fAd K p) fd ps (lift K mg sp) := by
  obtain ⟨oc, od, dV, kV, doc, pm, an, cdv, ct, osl, rfl, lk, hcd, _, _⟩ := FD.ex
  refine fn_of lk hcd S (fun vs H Q E h => ?_) fun A outer s H vs Q E hr h => ?_
  · obtain ⟨wd, F, cs, ds, PD, PX, R, r, s, q⟩ := h
    rw [r.length]
    exact len _ _ _ _ s
  · obtain ⟨wd, F, cs, ds, PD, PX, R, r, hs, q, xx⟩ := h
    obtain ⟨c, ec⟩ := He.codeIn_ref hcd
    have e1 : He.codeOf K p = c := He.codeOf_eq lk ec
    have hmem : (He.tabOf K c, qual ++ ".<locals>." ++ "<lambda>") ∈ tabsOf K := by
      refine List.mem_filterMap.mpr ⟨_, mem_of_lk lk, ?_⟩
      have hO' : K.lookup (He.tabOf K c) = none := by
        rw [← e1]
        exact hO
      show (match (PySem.W.fnOf x qual params body scope dV kV doc pm an cdv ct).code with
        | .ref c => if (K.lookup (He.tabOf K c)).isNone then some (He.tabOf K c, (PySem.W.fnOf x qual params body scope dV kV doc pm an cdv ct).qualname ++ ".<locals>." ++ "<lambda>") else none
        | _ => none) = _
      have e2 : (PySem.W.fnOf x qual params body scope dV kV doc pm an cdv ct).code = .ref c := ec
      rw [e2]
      show (if (K.lookup (He.tabOf K c)).isNone then some (He.tabOf K c, qual ++ ".<locals>." ++ "<lambda>") else none) = _
      rw [hO']
      rfl
    have LK : LamK K mg base cdv qual := by
      refine ⟨c, He.tabOf K c, ?_, ec, hmem, fun r hr h => ?_⟩
      · have hT : LamX.TabB base mg (He.codeOf K p) (He.tabOf K (He.codeOf K p)) := hT
        rw [e1] at hT
        exact hT
      · have z := List.all_eq_true.mp (List.all_eq_true.mp hU _ hr) _ hmem
        simp only [Bool.or_eq_true, Bool.not_eq_true', decide_eq_true_eq] at z
        rcases z with z | z
        · rw [h] at z
          simp at z
        · exact z
    obtain ⟨t, p1, r1⟩ := hb cdv A outer s H E LK ⟨rfl, S.nd, passes_of rfl, L2N.takes_of rfl rfl rfl rfl, hr⟩
    refine ⟨t, p1, ?_⟩
    exact r1 wd F _ cs _ H _ _ R (rs_start r) (ok ds cs PD PX hs) ⟨fun wd' τ cs' σ H' l R' rs' h' => q wd' .non cs' .non H' l R' rfl h', fun _ _ _ _ _ _ _ _ z => z.elim, fun _ _ _ _ _ _ _ _ z => z.elim, q, fun wd' y τ cs' σ cls dd H' l R' rs' rx z => xx wd' y cs' cls dd H' l R' rx z⟩
end
end G

namespace G
def c_need_nodeX_1 : S := (.rse (fun ds => er "NoNode" "node" (ds.headD .non)) (.cons (.v 1) .nil))
def c_need_nodeX_2 : S := (.ite (.app sNot (.cons (.chain sLe sLt (.c (.int 0)) (.v 1) (.app sLen (.cons (.v 0) .nil))) .nil)) (c_need_nodeX_1) .skip)
def c_need_nodeX : S := (c_need_nodeX_2)
def cM_find_all_1 (p_find : G.Spec) (p_need_node : G.Spec) : S := (.exp (.app p_need_node (.cons (.v 0) (.cons (.v 2) .nil))))
def cM_find_all_2 (p_find : G.Spec) (p_need_node : G.Spec) : S := (.fr (.nm 2) iSeq (.cons (.v 1) .nil) (cM_find_all_1 p_find p_need_node))
def cM_find_all_3 (p_find : G.Spec) (p_need_node : G.Spec) : S := (.asg (.nm 3) (.app sListM .nil))
def cM_find_all_4 (p_find : G.Spec) (p_need_node : G.Spec) : S := (.asg (.tup (.cons (.nm 0) (.cons (.nm 4) .nil))) (.app p_find (.cons (.v 0) (.cons (.v 2) .nil))))
def cM_find_all_5 (p_find : G.Spec) (p_need_node : G.Spec) : S := (.exp (.meth chkL sAppend (.v 3) (.cons (.v 4) .nil)))
def cM_find_all_6 (p_find : G.Spec) (p_need_node : G.Spec) : S := (.fr (.nm 2) iSeq (.cons (.v 1) .nil) (.seq (cM_find_all_4 p_find p_need_node) (cM_find_all_5 p_find p_need_node)))
def cM_find_all_7 (p_find : G.Spec) (p_need_node : G.Spec) : S := (.ret (.app sTup (.cons (.v 0) (.cons (.v 3) .nil))))
def cM_find_all (p_find : G.Spec) (p_need_node : G.Spec) : S := (.seq (cM_find_all_2 p_find p_need_node) (.seq (cM_find_all_3 p_find p_need_node) (.seq (cM_find_all_6 p_find p_need_node) (cM_find_all_7 p_find p_need_node))))
def c_need_rootX_1 (p_need_node : G.Spec) : S := (.exp (.app p_need_node (.cons (.v 0) (.cons (.v 1) .nil))))
def c_need_rootX_2 (p_need_node : G.Spec) : S := (.rse (fun ds => er "NotRoot" "node" (ds.headD .non)) (.cons (.v 1) .nil))
def c_need_rootX_3 (p_need_node : G.Spec) : S := (.ite (.app sNe (.cons (.app sIx (.cons (.v 0) (.cons (.v 1) .nil))) (.cons (.v 1) .nil))) (c_need_rootX_2 p_need_node) .skip)
def c_need_rootX (p_need_node : G.Spec) : S := (.seq (c_need_rootX_1 p_need_node) (c_need_rootX_3 p_need_node))
def c_linkX_1 (p_compressed : G.Spec) (p_need_root : G.Spec) : S := (.exp (.app p_need_root (.cons (.v 0) (.cons (.v 1) .nil))))
def c_linkX_2 (p_compressed : G.Spec) (p_need_root : G.Spec) : S := (.exp (.app p_need_root (.cons (.v 0) (.cons (.v 2) .nil))))
def c_linkX_3 (p_compressed : G.Spec) (p_need_root : G.Spec) : S := (.rse (fun ds => er "SameRoot" "node" (ds.headD .non)) (.cons (.v 1) .nil))
def c_linkX_4 (p_compressed : G.Spec) (p_need_root : G.Spec) : S := (.ite (.app sEq (.cons (.v 1) (.cons (.v 2) .nil))) (c_linkX_3 p_compressed p_need_root) .skip)
def c_linkX_5 (p_compressed : G.Spec) (p_need_root : G.Spec) : S := (.ret (.app p_compressed (.cons (.v 0) (.cons (.app sList (.cons (.v 1) .nil)) (.cons (.v 2) .nil)))))
def c_linkX (p_compressed : G.Spec) (p_need_root : G.Spec) : S := (.seq (c_linkX_1 p_compressed p_need_root) (.seq (c_linkX_2 p_compressed p_need_root) (.seq (c_linkX_4 p_compressed p_need_root) (c_linkX_5 p_compressed p_need_root))))
def c_check_pairX_1 : S := (.rse (fun ds => er "SizesDiffer" "size" (ds.headD .non)) (.cons (.app sLen (.cons (.v 1) .nil)) .nil))
def c_check_pairX_2 : S := (.ite (.app sNe (.cons (.app sLen (.cons (.v 0) .nil)) (.cons (.app sLen (.cons (.v 1) .nil)) .nil))) (c_check_pairX_1) .skip)
def c_check_pairX_3 : S := (.asg (.nm 2) (.comp false [3] (.nm 3) iRng1 (.cons (.app sLen (.cons (.v 0) .nil)) .nil) (.app sNe (.cons (.app sEq (.cons (.app sIx (.cons (.v 0) (.cons (.v 3) .nil))) (.cons (.v 3) .nil))) (.cons (.app sEq (.cons (.app sIx (.cons (.v 1) (.cons (.v 3) .nil))) (.cons (.v 3) .nil))) .nil))) (.v 3)))
def c_check_pairX_4 : S := (.rse (fun ds => er "RootsDiffer" "node" (ds.headD .non)) (.cons (.app sIx (.cons (.v 2) (.cons (.c (.int 0)) .nil))) .nil))
def c_check_pairX_5 : S := (.ite (.app sNe (.cons (.v 2) (.cons (.app sList .nil) .nil))) (c_check_pairX_4) .skip)
def c_check_pairX : S := (.seq (c_check_pairX_2) (.seq (c_check_pairX_3) (c_check_pairX_5)))
def c_needed_findsX_1 (p_changed_nodes : G.Spec) (p_find_bar : G.Spec) (p_subtree_of : G.Spec) : S := (.asg (.nm 2) (.app p_changed_nodes (.cons (.v 0) (.cons (.v 1) .nil))))
def c_needed_findsX_2 (p_changed_nodes : G.Spec) (p_find_bar : G.Spec) (p_subtree_of : G.Spec) : S := (.asg (.nm 3) (.app p_find_bar (.cons (.v 0) (.cons (.v 1) .nil))))
def c_needed_findsX_3 (p_changed_nodes : G.Spec) (p_find_bar : G.Spec) (p_subtree_of : G.Spec) : S := (.rse (fun ds => er "NoWay" "node" (ds.headD .non)) (.cons (.app sIx (.cons (.v 3) (.cons (.c (.int 0)) .nil))) .nil))
def c_needed_findsX_4 (p_changed_nodes : G.Spec) (p_find_bar : G.Spec) (p_subtree_of : G.Spec) : S := (.ite (.app sNotN (.cons (.v 3) (.cons (.c .non) .nil))) (c_needed_findsX_3 p_changed_nodes p_find_bar p_subtree_of) .skip)
def c_needed_findsX_5 (p_changed_nodes : G.Spec) (p_find_bar : G.Spec) (p_subtree_of : G.Spec) : S := (.ret (.comp false [4] (.nm 4) iSeq (.cons (.v 2) .nil) (.app sEq (.cons (.app sLen (.cons (.comp false [5] (.nm 5) iSeq (.cons (.app p_subtree_of (.cons (.v 0) (.cons (.v 4) .nil))) .nil) (.app sIn (.cons (.v 5) (.cons (.v 2) .nil))) (.v 5)) .nil)) (.cons (.c (.int 1)) .nil))) (.v 4)))
def c_needed_findsX (p_changed_nodes : G.Spec) (p_find_bar : G.Spec) (p_subtree_of : G.Spec) : S := (.seq (c_needed_findsX_1 p_changed_nodes p_find_bar p_subtree_of) (.seq (c_needed_findsX_2 p_changed_nodes p_find_bar p_subtree_of) (.seq (c_needed_findsX_4 p_changed_nodes p_find_bar p_subtree_of) (c_needed_findsX_5 p_changed_nodes p_find_bar p_subtree_of))))
def c_count_ways_1 (p_needed_finds : G.Spec) : S := (.asg (.nm 2) (.c (.int 1)))
def c_count_ways_2 (p_needed_finds : G.Spec) : S := (.asg (.nm 2) (.app sMul (.cons (.v 2) (.cons (.v 3) .nil))))
def c_count_ways_3 (p_needed_finds : G.Spec) : S := (.fr (.nm 3) iRng2 (.cons (.c (.int 2)) (.cons (.app sAdd (.cons (.app sLen (.cons (.app p_needed_finds (.cons (.v 0) (.cons (.v 1) .nil))) .nil)) (.cons (.c (.int 1)) .nil))) .nil)) (c_count_ways_2 p_needed_finds))
def c_count_ways_4 (p_needed_finds : G.Spec) : S := (.ret (.v 2))
def c_count_ways (p_needed_finds : G.Spec) : S := (.seq (c_count_ways_1 p_needed_finds) (.seq (c_count_ways_3 p_needed_finds) (c_count_ways_4 p_needed_finds)))
def c_l_exchanged_1 (p__law_path : G.Spec) (p__law_take : G.Spec) : S := (.asg (.nm 2) (.app sListOfM (.cons (.v 1) .nil)))
def c_l_exchanged_2 (p__law_path : G.Spec) (p__law_take : G.Spec) : S := (.asg (.tup (.cons (.nm 4) (.cons (.nm 5) .nil))) (.app sTup (.cons (.app p__law_take (.cons (.v 0) (.cons (.app sLen (.cons (.v 2) .nil)) .nil))) (.cons (.app p__law_take (.cons (.v 0) (.cons (.app sLen (.cons (.v 2) .nil)) .nil))) .nil))))
def c_l_exchanged_3 (p__law_path : G.Spec) (p__law_take : G.Spec) : S := (.exp (.app sSetIx (.cons (.v 5) (.cons (.v 2) (.cons (.v 4) .nil)))))
def c_l_exchanged_4 (p__law_path : G.Spec) (p__law_take : G.Spec) : S := (.ite (.and (.app sNe (.cons (.app sIx (.cons (.v 2) (.cons (.v 4) .nil))) (.cons (.v 4) .nil))) (.app sNotIn (.cons (.v 4) (.cons (.app p__law_path (.cons (.v 2) (.cons (.v 5) .nil))) .nil)))) (c_l_exchanged_3 p__law_path p__law_take) .skip)
def c_l_exchanged_5 (p__law_path : G.Spec) (p__law_take : G.Spec) : S := (.ite (.app sNe (.cons (.v 2) (.cons (.app sList .nil) .nil))) (.seq (c_l_exchanged_2 p__law_path p__law_take) (c_l_exchanged_4 p__law_path p__law_take)) .skip)
def c_l_exchanged_6 (p__law_path : G.Spec) (p__law_take : G.Spec) : S := (.fr (.nm 3) iRng1 (.cons (.app p__law_take (.cons (.v 0) (.cons (.c (.int 4)) .nil))) .nil) (c_l_exchanged_5 p__law_path p__law_take))
def c_l_exchanged_7 (p__law_path : G.Spec) (p__law_take : G.Spec) : S := (.ret (.app sTupOf (.cons (.v 2) .nil)))
def c_l_exchanged (p__law_path : G.Spec) (p__law_take : G.Spec) : S := (.seq (c_l_exchanged_1 p__law_path p__law_take) (.seq (c_l_exchanged_6 p__law_path p__law_take) (c_l_exchanged_7 p__law_path p__law_take)))
def c_l_rooted_pair_1 (p__law_exchanged : G.Spec) (p__law_found : G.Spec) (p__law_nodes : G.Spec) (p__law_some_forest : G.Spec) (p__law_take : G.Spec) : S := (.asg (.nm 2) (.app p__law_some_forest (.cons (.v 0) (.cons (.v 1) .nil))))
def c_l_rooted_pair_2 (p__law_exchanged : G.Spec) (p__law_found : G.Spec) (p__law_nodes : G.Spec) (p__law_some_forest : G.Spec) (p__law_take : G.Spec) : S := (.asg (.nm 3) (.app p__law_take (.cons (.v 0) (.cons (.c (.int 6)) .nil))))
def c_l_rooted_pair_3 (p__law_exchanged : G.Spec) (p__law_found : G.Spec) (p__law_nodes : G.Spec) (p__law_some_forest : G.Spec) (p__law_take : G.Spec) : S := (.asg (.nm 4) (.ite (.app sLt (.cons (.v 3) (.cons (.c (.int 4)) .nil))) (.app sIx (.cons (.app p__law_found (.cons (.v 2) (.cons (.app p__law_nodes (.cons (.v 0) (.cons (.app sLen (.cons (.v 2) .nil)) (.cons (.c (.int 9)) .nil)))) .nil))) (.cons (.c (.int 0)) .nil))) (.v 2)))
def c_l_rooted_pair_4 (p__law_exchanged : G.Spec) (p__law_found : G.Spec) (p__law_nodes : G.Spec) (p__law_some_forest : G.Spec) (p__law_take : G.Spec) : S := (.asg (.nm 4) (.app p__law_exchanged (.cons (.v 0) (.cons (.v 4) .nil))))
def c_l_rooted_pair_5 (p__law_exchanged : G.Spec) (p__law_found : G.Spec) (p__law_nodes : G.Spec) (p__law_some_forest : G.Spec) (p__law_take : G.Spec) : S := (.ite (.app sIn (.cons (.v 3) (.cons (.app sTup (.cons (.c (.int 3)) (.cons (.c (.int 4)) .nil))) .nil))) (c_l_rooted_pair_4 p__law_exchanged p__law_found p__law_nodes p__law_some_forest p__law_take) .skip)
def c_l_rooted_pair_6 (p__law_exchanged : G.Spec) (p__law_found : G.Spec) (p__law_nodes : G.Spec) (p__law_some_forest : G.Spec) (p__law_take : G.Spec) : S := (.ret (.app sTup (.cons (.v 2) (.cons (.v 4) .nil))))
def c_l_rooted_pair (p__law_exchanged : G.Spec) (p__law_found : G.Spec) (p__law_nodes : G.Spec) (p__law_some_forest : G.Spec) (p__law_take : G.Spec) : S := (.seq (c_l_rooted_pair_1 p__law_exchanged p__law_found p__law_nodes p__law_some_forest p__law_take) (.seq (c_l_rooted_pair_2 p__law_exchanged p__law_found p__law_nodes p__law_some_forest p__law_take) (.seq (c_l_rooted_pair_3 p__law_exchanged p__law_found p__law_nodes p__law_some_forest p__law_take) (.seq (c_l_rooted_pair_5 p__law_exchanged p__law_found p__law_nodes p__law_some_forest p__law_take) (c_l_rooted_pair_6 p__law_exchanged p__law_found p__law_nodes p__law_some_forest p__law_take)))))
def c_bar_holds_1 (p_changed_nodes : G.Spec) (p_path_of : G.Spec) : S := (.asg (.tup (.cons (.nm 3) (.cons (.nm 4) .nil))) (.v 2))
def c_bar_holds_2 (p_changed_nodes : G.Spec) (p_path_of : G.Spec) : S := (.ret (.c (.bl false)))
def c_bar_holds_3 (p_changed_nodes : G.Spec) (p_path_of : G.Spec) : S := (.ite (.app sNotIn (.cons (.v 3) (.cons (.app p_changed_nodes (.cons (.v 0) (.cons (.v 1) .nil))) .nil))) (c_bar_holds_2 p_changed_nodes p_path_of) .skip)
def c_bar_holds_4 (p_changed_nodes : G.Spec) (p_path_of : G.Spec) : S := (.asg (.tup (.cons (.nm 5) (.cons (.nm 6) .nil))) (.app (sStar 2 0) (.cons (.app p_path_of (.cons (.v 0) (.cons (.v 3) .nil))) .nil)))
def c_bar_holds_5 (p_changed_nodes : G.Spec) (p_path_of : G.Spec) : S := (.ret (.and (.app sIn (.cons (.v 4) (.cons (.v 5) .nil))) (.app sNe (.cons (.app sIx (.cons (.v 1) (.cons (.v 4) .nil))) (.cons (.v 6) .nil)))))
def c_bar_holds (p_changed_nodes : G.Spec) (p_path_of : G.Spec) : S := (.seq (c_bar_holds_1 p_changed_nodes p_path_of) (.seq (c_bar_holds_3 p_changed_nodes p_path_of) (.seq (c_bar_holds_4 p_changed_nodes p_path_of) (c_bar_holds_5 p_changed_nodes p_path_of))))
def c_is_needed_1 (p_changed_nodes : G.Spec) (p_subtree_of : G.Spec) : S := (.asg (.nm 3) (.app p_changed_nodes (.cons (.v 0) (.cons (.v 1) .nil))))
def c_is_needed_2 (p_changed_nodes : G.Spec) (p_subtree_of : G.Spec) : S := (.ret (.and (.app sIn (.cons (.v 2) (.cons (.v 3) .nil))) (.app sNot (.cons (.app sAny (.cons (.comp false [4] (.nm 4) iSeq (.cons (.app p_subtree_of (.cons (.v 0) (.cons (.v 2) .nil))) .nil) (.c (.bl true)) (.and (.app sIn (.cons (.v 4) (.cons (.v 3) .nil))) (.app sNe (.cons (.v 4) (.cons (.v 2) .nil))))) .nil)) .nil))))
def c_is_needed (p_changed_nodes : G.Spec) (p_subtree_of : G.Spec) : S := (.seq (c_is_needed_1 p_changed_nodes p_subtree_of) (c_is_needed_2 p_changed_nodes p_subtree_of))
end G

/-! GErr: finds that may raise. -/
namespace G
open PySem (Str)
theorem isEr_of {t f : Str} {d : D} (h : fname t = some f) : IsEr (er t f d) d := .inl ⟨f, h, rfl⟩
/-- no node -/
def badN (ds : List D) (cs : Cs) (X : KX) : Prop := ∃ x xs i, ds = [x, .int i] ∧ (∀ s, x ≠ .str s) ∧ getQ x cs = some xs ∧ ¬ (0 ≤ i ∧ i < xs.length) ∧ X (er "NoNode" "node" (.int i)) cs
def orN (sp : Spec) : Spec := fun ds cs Q X => sp ds cs Q X ∨ badN ds cs X
theorem badN_fD {p : List Nat} {v : Int} {cs : Cs} {X : KX} (h : v < 0 ∨ (p.length : Int) ≤ v) (hX : X (er "NoNode" "node" (.int v)) cs) : badN [fD p, .int v] cs X :=
  ⟨_, _, _, rfl, fD_str, getQ_fD, by rw [nI_len]; omega, hX⟩
abbrev spNeedG : Spec := orN spNeed
abbrev spPathG : Spec := orN spPath
abbrev spFndG : Spec := orN spFnd
theorem ok_needG : okFn 2 c_need_nodeX spNeedG := by
  rintro ds cs Q X (⟨x, xs, i, rfl, hx, hq, h0, h1, hQ⟩ | ⟨x, xs, i, rfl, hx, hq, hn, hX⟩)
  · show wpS c_need_nodeX_2 [some x, some (.int i)] cs _
    rw [c_need_nodeX_2]
    simp [sLen_e hx, hq, h0, h1]
    exact hQ
  · show wpS c_need_nodeX_2 [some x, some (.int i)] cs _
    rw [c_need_nodeX_2, c_need_nodeX_1]
    by_cases h0 : 0 ≤ i
    · have h1 : ¬ i < xs.length := fun z => hn ⟨h0, z⟩
      simp [sLen_e hx, hq, h0, h1]
      exact hX
    · simp [sLen_e hx, hq, h0]
      exact hX
theorem ok_pathG : okFn 3 (c_path_of spNeedG) spPathG := by
  rintro ds cs Q X (⟨p, i, rfl, h, hi, hl, hQ⟩ | h)
  · have z := ok_path _ cs Q X ⟨p, i, rfl, h, hi, hl, hQ⟩
    exact Or.inl z
  · obtain ⟨x, xs, i, rfl, hx, hq, hn, hX⟩ := h
    exact Or.inr ⟨x, xs, i, rfl, hx, hq, hn, hX⟩
theorem ok_findG : okFn 3 (c_find spCmp spPathG) spFndG := by
  rintro ds cs Q X (⟨p, i, rfl, h, hi, hl, hQ⟩ | h)
  · have z := ok_find _ cs Q X ⟨p, i, rfl, h, hi, hl, hQ⟩
    exact Or.inl z
  · obtain ⟨x, xs, i, rfl, hx, hq, hn, hX⟩ := h
    exact Or.inr ⟨x, xs, i, rfl, hx, hq, hn, hX⟩
theorem spFndG_e {p : List Nat} {i : Nat} {cs : Cs} {Q : KD} {X : KX} (h : FoOk p) (hi : i < p.length) (hl : p.length ≤ 1000) (hQ : Q (.tup [fD (fnd p i), .int (cst p i : Nat)]) cs) : spFndG [fD p, .int (i : Nat)] cs Q X := .inl (spFnd_e h hi hl hQ)
theorem spFndG_x {p : List Nat} {v : Int} {cs : Cs} {Q : KD} {X : KX} (h : v < 0 ∨ (p.length : Int) ≤ v) (hX : X (er "NoNode" "node" (.int v)) cs) : spFndG [fD p, .int v] cs Q X := .inr (badN_fD h hX)
theorem sNe_self {x : D} {cs : Cs} {Q : KD} {X : KX} (h : pur 64 (deref cs x) = true) (hQ : Q (.bl false) cs) : sNe [x, x] cs Q X := by
  rw [sNe_e]
  refine ⟨h, h, ?_⟩
  rw [eqD_refl _ _ h]
  exact hQ
theorem sEq_self {x : D} {cs : Cs} {Q : KD} {X : KX} (h : pur 64 (deref cs x) = true) (hQ : Q (.bl true) cs) : sEq [x, x] cs Q X := by
  rw [sEq_e]
  refine ⟨h, h, ?_⟩
  rw [eqD_refl _ _ h]
  exact hQ
theorem pur_tup2 {k : Nat} {a b : D} (ha : pur k a = true) (hb : pur k b = true) : pur (k + 1) (.tup [a, b]) = true := by
  show (decide (2 ≤ lim) && (pur k a && (pur k b && true))) = true
  rw [ha, hb]
  rfl
theorem pur_lst2 {k : Nat} {a b : D} (ha : pur k a = true) (hb : pur k b = true) : pur (k + 1) (.lst [a, b]) = true := by
  show (decide (2 ≤ lim) && (pur k a && (pur k b && true))) = true
  rw [ha, hb]
  rfl
theorem pur_int {k : Nat} {i : Int} : pur k (.int i) = true := by cases k <;> rfl
theorem pur_str {k : Nat} {s : Str} (h : strOk s = true) : pur k (.str s) = true := by cases k <;> exact h
theorem pur_non {k : Nat} : pur k .non = true := by cases k <;> rfl
/-- an error's answer is the due one -/
theorem ne_err {t : Str} {d : D} {cs : Cs} {Q : KD} {X X' : KX} (ht : strOk t = true) (hd : pur 63 d = true) (hQ : Q (.bl false) cs) : sTup [.str t, d] cs (fun e c1 => sNe [.tup [.str t, d], e] c1 Q X) X' := by
  rw [sTup_e]
  refine ⟨show 2 ≤ 16777216 by decide, ?_⟩
  exact sNe_self (show pur 64 (.tup [.str t, d]) = true from pur_tup2 (pur_str ht) hd) hQ
/-- a find again -/
theorem fnd_more {p : List Nat} (h : FoOk p) {i : Nat} (hi : i < p.length) : fnd p i = flt p (more p (fun _ => false) i) := by
  have z := fnd_flt h no_ok hi
  rw [flt_none] at z
  exact z
theorem fnd_fnd {p : List Nat} (h : FoOk p) {i : Nat} (hi : i < p.length) : fnd (fnd p i) i = fnd p i := by
  rw [fnd_more h hi, fnd_flt h (more_ok h no_ok hi) hi]
  congr 1
  funext j
  simp [more]
theorem cst_fnd {p : List Nat} (h : FoOk p) {i : Nat} (hi : i < p.length) : cst (fnd p i) i = min 1 (cst p i) := by
  rw [fnd_more h hi, cst_flt h (more_ok h no_ok hi) i hi]
  have e0 : (path p i).countP (fun j => !(more p (fun _ => false) i) j && deep p j) = 0 := by
    rw [List.countP_eq_zero]
    intro j hj
    have rl := root_lt h i hi
    by_cases e : j = root p i
    · rw [e]
      simp [deep, rl.2]
    · simp [more, hj, e]
  rw [e0, Nat.zero_add]
  unfold nroot cst
  by_cases e : par p i = i
  · rw [if_pos e, path_root h hi e]
    rfl
  · rw [if_neg e, path_step h hi e]
    have l2 : 0 < (path p (par p i)).length := List.length_pos_iff.mpr (path_ne _)
    rw [List.length_cons]
    omega
end G

/-! GAll: find_all that may raise; its result's list changed by the caller. -/
namespace G
open PySem (Str)
def badA (ds : List D) (cs : Cs) (X : KX) : Prop := ∃ p x pre v post, ds = [fD p, x] ∧ isSeq x (nI pre ++ .int v :: post) ∧ (∀ i ∈ pre, i < p.length) ∧ (v < 0 ∨ (p.length : Int) ≤ v) ∧ X (er "NoNode" "node" (.int v)) cs
def spAllM : Spec := fun ds cs Q _ => ∃ p x xs, ds = [fD p, x] ∧ isSeq x (nI xs) ∧ FoOk p ∧ (∀ i ∈ xs, i < p.length) ∧ p.length ≤ 1000 ∧ xs.length ≤ 100000 ∧ ∀ n, cs n = none → Q (.tup [fD (fndAll p xs).1, .ref n]) (put cs n (.lst (nI (fndAll p xs).2)))
def orA (sp : Spec) : Spec := fun ds cs Q X => sp ds cs Q X ∨ badA ds cs X
abbrev spAllG : Spec := orA spAll
abbrev spAllMG : Spec := orA spAllM
theorem spAllG_e {p xs : List Nat} {x : D} {cs : Cs} {Q : KD} {X : KX} (hs : isSeq x (nI xs)) (h : FoOk p) (hx : ∀ i ∈ xs, i < p.length) (hl : p.length ≤ 1000) (hm : xs.length ≤ 100000) (hQ : Q (.tup [fD (fndAll p xs).1, lD (fndAll p xs).2]) cs) : spAllG [fD p, x] cs Q X := .inl (spAll_e hs h hx hl hm hQ)
theorem spAllMG_e {p xs : List Nat} {x : D} {cs : Cs} {Q : KD} {X : KX} (hs : isSeq x (nI xs)) (h : FoOk p) (hx : ∀ i ∈ xs, i < p.length) (hl : p.length ≤ 1000) (hm : xs.length ≤ 100000) (hQ : ∀ n, cs n = none → Q (.tup [fD (fndAll p xs).1, .ref n]) (put cs n (.lst (nI (fndAll p xs).2)))) : spAllMG [fD p, x] cs Q X := .inl ⟨_, _, _, rfl, hs, h, hx, hl, hm, hQ⟩
theorem badA_e {p pre : List Nat} {x : D} {v : Int} {post : List D} {cs : Cs} {X : KX} (hs : isSeq x (nI pre ++ .int v :: post)) (hx : ∀ i ∈ pre, i < p.length) (hv : v < 0 ∨ (p.length : Int) ≤ v) (hX : X (er "NoNode" "node" (.int v)) cs) : badA [fD p, x] cs X := ⟨_, _, _, _, _, rfl, hs, hx, hv, hX⟩
theorem need_good {K : Ends} {p xs : List Nat} {x : D} {cs : Cs} {b c : Option D} (hs : isSeq x (nI xs)) (hx : ∀ i ∈ xs, i < p.length) (hN : ∀ a, K.nx [some (fD p), some x, a, b, c] cs) : wpS (.fr (.nm 2) iSeq (.cons (.v 1) .nil) (.exp (.app spNeedG (.cons (.v 0) (.cons (.v 2) .nil))))) [some (fD p), some x, none, b, c] cs K := by
  simp only [wpS, wpE, wpEs, getV]
  refine iSeq_e hs (forL_inv (fun j σ d => d = cs ∧ ∃ a, σ = [some (fD p), some x, a, b, c]) _ 0 ⟨rfl, _, rfl⟩ (fun _ _ _ _ _ _ => hs.g) ?_ ?_)
  · rintro j d σ c hd ⟨rfl, a, rfl⟩
    obtain ⟨i, hi, e⟩ := List.mem_map.mp (List.mem_of_getElem? hd)
    subst e
    refine ⟨_, rfl, fun K' h1 h2 h3 h4 h5 => ?_⟩
    simp only [wpS, wpE, wpEs, getV, List.set]
    exact .inl (spNeed_e ⟨by omega, by have := hx i hi; omega⟩ (h1 _ _ ⟨rfl, _, rfl⟩))
  rintro σ c ⟨rfl, a, rfl⟩
  exact hN a
theorem need_bad {K : Ends} {p pre : List Nat} {x : D} {v : Int} {post : List D} {cs : Cs} {b c : Option D} (hs : isSeq x (nI pre ++ .int v :: post)) (hx : ∀ i ∈ pre, i < p.length) (hv : v < 0 ∨ (p.length : Int) ≤ v) (hX : ∀ σ, K.ex (er "NoNode" "node" (.int v)) σ cs) :
    wpS (.fr (.nm 2) iSeq (.cons (.v 1) .nil) (.exp (.app spNeedG (.cons (.v 0) (.cons (.v 2) .nil))))) [some (fD p), some x, none, b, c] cs K := by
  simp only [wpS, wpE, wpEs, getV]
  refine iSeq_e hs (forL_inv (fun j σ d => (d = cs ∧ ∃ a, σ = [some (fD p), some x, a, b, c]) ∧ j ≤ pre.length) _ 0 ⟨⟨rfl, _, rfl⟩, Nat.zero_le _⟩ (fun _ _ _ _ _ _ => hs.g) ?_ ?_)
  · rintro j d σ c hd ⟨⟨rfl, a, rfl⟩, hj⟩
    refine ⟨_, rfl, fun K' h1 h2 h3 h4 h5 => ?_⟩
    simp only [wpS, wpE, wpEs, getV, List.set]
    rw [Nat.zero_add] at hj h1
    rcases Nat.lt_or_eq_of_le hj with hj | hj
    · rw [List.getElem?_append_left (by rw [nI_len]; exact hj), nI_get hj] at hd
      cases hd
      have hi := hx _ (List.getElem_mem hj)
      exact .inl (spNeed_e ⟨by omega, by omega⟩ (h1 _ _ ⟨⟨rfl, _, rfl⟩, by omega⟩))
    · rw [List.getElem?_append_right (by rw [nI_len]; omega), nI_len, hj, Nat.sub_self] at hd
      cases hd
      refine .inr (badN_fD hv ?_)
      rw [h5]
      exact hX _
  rintro σ c ⟨_, h⟩
  rw [List.length_append, nI_len, List.length_cons] at h
  omega
theorem ok_allG : okFn 5 (c_find_all spFndG spNeedG) (orA spAll) := by
  rintro ds cs Q X (⟨p, x, xs, rfl, hs, h, hx, hl, hm, hQ⟩ | ⟨p, x, pre, v, post, rfl, hs, hx, hv, hX⟩)
  · show wpS (.seq (.fr (.nm 2) iSeq (.cons (.v 1) .nil) (.exp (.app spNeedG (.cons (.v 0) (.cons (.v 2) .nil))))) (.seq (c_find_all_3 spFndG spNeedG) (.seq (c_find_all_6 spFndG spNeedG) (.seq (.frz 3) (c_find_all_7 spFndG spNeedG))))) [some (fD p), some x, none, none, none] cs _
    rw [show ∀ a b σ c K, wpS (.seq a b) σ c K = wpS a σ c { nx := fun σ' c' => wpS b σ' c' K, bk := K.bk, ct := K.ct, rt := K.rt, ex := K.ex } from fun _ _ _ _ _ => by simp only [wpS]]
    refine need_good hs hx fun a => ?_
    show wpS (.seq _ _) _ _ _
    simp only [wpS]
    rw [c_find_all_3]
    simp only [wpS, wpE, wpEs, bindP, getV, List.set, sListM_e]
    refine ⟨Nat.zero_le _, fun n hn => ?_⟩
    rw [c_find_all_6]
    simp only [wpS, wpE, wpEs, getV]
    refine iSeq_e hs (forL_inv (fun j σ d => d = put cs n (.lst (nI (fndAll p (xs.take j)).2)) ∧ ∃ a b, σ = [some (fD (fndAll p (xs.take j)).1), some x, a, some (.ref n), b]) _ 0 ⟨rfl, _, _, rfl⟩ (fun _ _ _ _ _ _ => hs.g) ?_ ?_)
    · rintro j d σ c' hd ⟨rfl, a, b, rfl⟩
      have hj : j < xs.length := by simpa using (List.getElem?_eq_some_iff.mp hd).1
      rw [nI_get hj] at hd
      cases hd
      refine ⟨_, rfl, fun K' h1 h2 h3 h4 h5 => ?_⟩
      clear h2 h3 h4 h5
      have sub : ∀ i ∈ xs.take j, i < p.length := fun i hi => hx i (List.mem_of_mem_take hi)
      have fo := fndAll_fo h sub
      have hi := hx _ (List.getElem_mem hj)
      show wpS (.seq (c_find_all_4 spFndG spNeedG) (c_find_all_5 spFndG spNeedG)) _ _ _
      rw [c_find_all_4, c_find_all_5]
      simp only [wpS, wpE, wpEs, getV, List.set, Nat.zero_add]
      refine spFndG_e fo.1 (by rw [fo.2.1]; exact hi) (by rw [fo.2.1]; exact hl) ?_
      simp
      refine ⟨?_, h1 _ _ ⟨?_, some (.int (xs[j] : Nat)), some (.int (cst (fndAll p (xs.take j)).1 xs[j] : Nat)), ?_⟩⟩
      · rw [fo.2.2, List.length_take]
        show _ < 16777216
        omega
      · rw [Nat.zero_add, List.take_succ_eq_append_getElem hj, fndAll_snoc]
        simp [nI]
      · rw [Nat.zero_add, List.take_succ_eq_append_getElem hj, fndAll_snoc]
    · rintro σ c' ⟨rfl, a, b, rfl⟩
      have e : xs.take (0 + (nI xs).length) = xs := by rw [nI_len, Nat.zero_add, List.take_length]
      rw [e]
      rw [c_find_all_7]
      simp
      refine ⟨show 2 ≤ 16777216 by decide, ?_⟩
      rw [del_put hn]
      exact hQ
  · show wpS (.seq (.fr (.nm 2) iSeq (.cons (.v 1) .nil) (.exp (.app spNeedG (.cons (.v 0) (.cons (.v 2) .nil))))) _) [some (fD p), some x, none, none, none] cs _
    rw [show ∀ a b σ c K, wpS (.seq a b) σ c K = wpS a σ c { nx := fun σ' c' => wpS b σ' c' K, bk := K.bk, ct := K.ct, rt := K.rt, ex := K.ex } from fun _ _ _ _ _ => by simp only [wpS]]
    exact need_bad hs hx hv fun _ => hX
theorem ok_allMG : okFn 5 (cM_find_all spFndG spNeedG) (orA spAllM) := by
  rintro ds cs Q X (⟨p, x, xs, rfl, hs, h, hx, hl, hm, hQ⟩ | ⟨p, x, pre, v, post, rfl, hs, hx, hv, hX⟩)
  · show wpS (.seq (.fr (.nm 2) iSeq (.cons (.v 1) .nil) (.exp (.app spNeedG (.cons (.v 0) (.cons (.v 2) .nil))))) (.seq (cM_find_all_3 spFndG spNeedG) (.seq (cM_find_all_6 spFndG spNeedG) (cM_find_all_7 spFndG spNeedG)))) [some (fD p), some x, none, none, none] cs _
    rw [show ∀ a b σ c K, wpS (.seq a b) σ c K = wpS a σ c { nx := fun σ' c' => wpS b σ' c' K, bk := K.bk, ct := K.ct, rt := K.rt, ex := K.ex } from fun _ _ _ _ _ => by simp only [wpS]]
    refine need_good hs hx fun a => ?_
    show wpS (.seq _ _) _ _ _
    simp only [wpS]
    rw [cM_find_all_3]
    simp only [wpS, wpE, wpEs, bindP, getV, List.set, sListM_e]
    refine ⟨Nat.zero_le _, fun n hn => ?_⟩
    rw [cM_find_all_6]
    simp only [wpS, wpE, wpEs, getV]
    refine iSeq_e hs (forL_inv (fun j σ d => d = put cs n (.lst (nI (fndAll p (xs.take j)).2)) ∧ ∃ a b, σ = [some (fD (fndAll p (xs.take j)).1), some x, a, some (.ref n), b]) _ 0 ⟨rfl, _, _, rfl⟩ (fun _ _ _ _ _ _ => hs.g) ?_ ?_)
    · rintro j d σ c' hd ⟨rfl, a, b, rfl⟩
      have hj : j < xs.length := by simpa using (List.getElem?_eq_some_iff.mp hd).1
      rw [nI_get hj] at hd
      cases hd
      refine ⟨_, rfl, fun K' h1 h2 h3 h4 h5 => ?_⟩
      clear h2 h3 h4 h5
      have sub : ∀ i ∈ xs.take j, i < p.length := fun i hi => hx i (List.mem_of_mem_take hi)
      have fo := fndAll_fo h sub
      have hi := hx _ (List.getElem_mem hj)
      show wpS (.seq (cM_find_all_4 spFndG spNeedG) (cM_find_all_5 spFndG spNeedG)) _ _ _
      rw [cM_find_all_4, cM_find_all_5]
      simp only [wpS, wpE, wpEs, getV, List.set, Nat.zero_add]
      refine spFndG_e fo.1 (by rw [fo.2.1]; exact hi) (by rw [fo.2.1]; exact hl) ?_
      simp
      refine ⟨?_, h1 _ _ ⟨?_, some (.int (xs[j] : Nat)), some (.int (cst (fndAll p (xs.take j)).1 xs[j] : Nat)), ?_⟩⟩
      · rw [fo.2.2, List.length_take]
        show _ < 16777216
        omega
      · rw [Nat.zero_add, List.take_succ_eq_append_getElem hj, fndAll_snoc]
        simp [nI]
      · rw [Nat.zero_add, List.take_succ_eq_append_getElem hj, fndAll_snoc]
    · rintro σ c' ⟨rfl, a, b, rfl⟩
      have e : xs.take (0 + (nI xs).length) = xs := by rw [nI_len, Nat.zero_add, List.take_length]
      rw [e]
      rw [cM_find_all_7]
      simp
      refine ⟨show 2 ≤ 16777216 by decide, ?_⟩
      exact hQ n hn
  · show wpS (.seq (.fr (.nm 2) iSeq (.cons (.v 1) .nil) (.exp (.app spNeedG (.cons (.v 0) (.cons (.v 2) .nil))))) _) [some (fD p), some x, none, none, none] cs _
    rw [show ∀ a b σ c K, wpS (.seq a b) σ c K = wpS a σ c { nx := fun σ' c' => wpS b σ' c' K, bk := K.bk, ct := K.ct, rt := K.rt, ex := K.ex } from fun _ _ _ _ _ => by simp only [wpS]]
    exact need_bad hs hx hv fun _ => hX
/-- a pair whose second part is a cell, as a tree -/
def frzT (sp : Spec) : Spec := fun ds cs Q X => sp ds cs (fun d c => ∃ a n xs, d = .tup [a, .ref n] ∧ c n = some (.lst xs) ∧ Q (.tup [a, .lst xs]) (del c n)) X
section
open PySem PySem.Spec L2
variable {P : Program} {w : World} {K : PySem.W.Frag} {mg : Str → Option Value} {base : Heap} {k : Nat} {f : Addr} {fd : FuncData} {ps : List Str} {sp : Spec}
theorem fnOk_frzT (F : FnOk P w K mg base (L2N.CX P w) k f fd ps (lift K mg sp)) : FnOk P w K mg base (L2N.CX P w) k f fd ps (lift K mg (frzT sp)) := by
  refine F.imp fun vs H Q E ⟨wd, F, cs, ds, PD, PX, R, r, hs, q, x⟩ => ⟨wd, F, cs, ds, _, PX, R, r, hs, fun wd' d c v H' l R' rv h => ?_, x⟩
  obtain ⟨a, n, xs, e, hc, hp⟩ := h
  subst e
  obtain ⟨wd2, b, le, e1, R2, rp⟩ := R'.freeze hc
  obtain ⟨pp, vs, ev, hB, hr⟩ := rv
  obtain ⟨v1, r1, q1, q2, v2, r2, q3, q4, q5⟩ := hr
  obtain ⟨b', e2, ev2⟩ := q4
  rw [e1] at e2
  cases e2
  subst ev2 q5
  have rt : Rp K wd2 (.tup [a, .lst xs]) v := by
    refine ⟨pp, vs, ev, le.B _ _ hB, ?_⟩
    rw [q1, q3]
    exact ⟨_, _, rfl, q2.mono le, _, _, rfl, rp, rfl⟩
  exact q wd2 _ _ _ H' (l.trans le) R2 rt hp
end
theorem conv_spAllG (ds : List D) (cs : Cs) (Q : KD) (X : KX) (h : spAllG ds cs Q X) : frzT spAllMG ds cs Q X := by
  rcases h with ⟨p, x, xs, e, hs, h, hx, hl, hm, hQ⟩ | h
  · refine .inl ⟨p, x, xs, e, hs, h, hx, hl, hm, fun n hn => ⟨_, n, _, rfl, put_same, ?_⟩⟩
    rw [del_put hn]
    exact hQ
  · exact .inr h
end G

/-! GHlp: small rules for the laws. -/
namespace G
open PySem (Str)
theorem cutLo_d {xs : List D} {i : Nat} {cs : Cs} {Q : KD} {X : KX} : sCutLo [.lst xs, .int (i : Nat)] cs Q X = Q (.lst (xs.drop i)) cs := by
  show Q (.lst (cutD xs (some (i : Nat)) none)) cs = _
  congr 2
  unfold cutD sIxAt
  simp
  rw [if_neg (by omega)]
  by_cases h : i ≤ xs.length
  · rw [List.take_of_length_le (by simp)]
    congr 1
    omega
  · rw [List.drop_eq_nil_of_le (as := xs) (i := i) (by omega)]
    rw [List.drop_eq_nil_of_le (by omega)]
    simp
theorem den_pair {cs : Cs} {k m : Nat} {a : D} {ys : List D} (hc : cs m = some (.lst ys)) (ha : pur (k + 1) a = true) (hy : purs k ys = true) (hl : ys.length ≤ lim) : den cs (k + 2) (.tup [a, .ref m]) = some (.tup [a, .lst ys]) := by
  show (if 2 ≤ lim then (densW (den cs (k + 1)) [a, .ref m]).map D.tup else none) = _
  rw [if_pos (show 2 ≤ 16777216 by decide)]
  unfold densW densW densW
  rw [den_pur _ _ ha, den_cell hc hy hl]
  rfl
theorem pur_all {k : Nat} {p xs : List Nat} (hp : p.length ≤ 16777216) (hx : xs.length ≤ 16777216) : pur (k + 2) (.tup [fD p, lD xs]) = true := pur_tup2 (pur_fD hp) (pur_lD hx)
/-- told(lambda: f(..)) -/
def spOut (k : Bool) (sp : Spec) : Spec := fun ds cs Q _ => sp ds cs (fun d c1 => Q (outD k d "" .non) c1) (fun x c1 => ∃ d, IsEr x d ∧ Q (outD k .non x.tag d) c1)
theorem out_app {k : Bool} {sp : Spec} {as : Es} {σ : Sl} {cs : Cs} {Q : KD} {X : KX} : wpE (.out k (.app sp as)) σ cs Q X = wpEs as σ cs (fun ds c1 => spOut k sp ds c1 Q X) (fun x c1 => ∃ d, IsEr x d ∧ Q (outD k .non x.tag d) c1) := rfl
theorem out_appk {k : Bool} {n m : Nat} {ix : List Nat} {sp : Spec} {as bs : Es} {σ : Sl} {cs : Cs} {Q : KD} {X : KX} : wpE (.out k (.appk n m ix sp as bs)) σ cs Q X = wpEs as σ cs (fun ds c1 => wpEs bs σ c1 (fun es c2 => ds.length = n ∧ es.length = m ∧ spOut k sp (permL ix (ds ++ es)) c2 Q X) (fun x c1 => ∃ d, IsEr x d ∧ Q (outD k .non x.tag d) c1)) (fun x c1 => ∃ d, IsEr x d ∧ Q (outD k .non x.tag d) c1) := rfl
/-- the list of nodes with a strange one in it -/
theorem bad_l {xs : List Nat} {i : Nat} {v : Int} {post : List D} : isSeq (.lst ((nI xs).take i ++ [.int v] ++ (nI xs).drop i ++ post)) (nI (xs.take i) ++ .int v :: ((nI xs).drop i ++ post)) := .inl (by simp [nI, List.map_take])
end G

/-! GLcI: a comprehension over a list whose element may lean on what its maker's frame holds. -/
namespace G
open PySem PySem.Spec L2 PyProof.Rows
open Evl (Ex)
/-- the block of a comprehension that is entered at (s, H) -/
abbrev bkX (X : Cx) (scope : Scope) (s : Shared) (H : Hp) (fp : List Addr) : Cx :=
  X.blk s H scope (compEnvC scope (cellsFrom (s.heap.objs.size + 1) scope.names (cloFrom X.env.cells scope.names [])) s.heap.objs.size X.env) fp
section
variable {X : Cx} {pins : List (Addr × Obj)} {σ : L2.St} {s : Shared} {H : Hp} {elt tg iter : Expr} {scope : Scope} {own : List (Str × Nat)} {pos : Pos} {g : TG} {te : TE} {D it : Addr} {fp : List Addr} {tn : Nat → Heap → Prop} {J : It} {Q : VK}
/-- what stands at the head of a turn -/
def AtTurn (X : Cx) (scope : Scope) (s : Shared) (H : Hp) (fp : List Addr) (σw : L2.St) (tn : Nat → Heap → Prop) (W : Nat → Nat → Hp → Prop) (n : Nat) (s' : Shared) : Prop :=
  ∃ i H', Inv (bkX X scope s H fp) [] σw H' s' ∧ tn i s'.heap ∧ (∀ b ∈ fp, H' b = none) ∧ W i n H'
theorem blk_fp {σ' : L2.St} {H' : Hp} {s' : Shared} (I : Inv (bkX X scope s H fp) [] σ' H' s') (hn : ∀ b ∈ fp, H' b = none) : ∀ b ∈ fp, FpOk (bkX X scope s H fp) [] H' b :=
  fun b hb => ⟨hn b hb, (I.ok.exf b hb).1, I.ok.exfs b hb, .inl hb, fun x c e => (I.ok.exf b hb).2 x c e, fun p hp => by cases (show p ∈ ([] : List (Addr × Obj)) ++ [] from hp)⟩
theorem turn_step {n i : Nat} {s5 : Shared} {H5 : Hp} {W : Nat → Nat → Hp → Prop} {E : Value → Shared → Prop} (hc : X.calm = true) (T : Turn X.prog X.w X.K tg J fp it tn)
    (pg : PG (bkX X scope s H fp) tg g) (pe : PE (bkX X scope s H fp) elt te)
    (I5 : Inv (bkX X scope s H fp) [] (L2.wipe σ (own.map (·.2))) H5 s5) (st5 : tn i s5.heap) (n5 : ∀ b ∈ fp, H5 b = none) (go : J.go i H5) {Nx : Hp → Prop} (hNx : ∀ H', Nx H' → ∃ m', m' < n ∧ W (i + 1) m' H')
    (step : ∀ x H', J.yld i H5 x H' → g x (L2.wipe σ (own.map (·.2))) H' fun σ2 H2 => L2.wipe σ2 (own.map (·.2)) = L2.wipe σ (own.map (·.2)) ∧ (fun σ H Q => Q true H : TT) σ2 H2 fun b H3 => if b = true then te σ2 H3 fun y H4 => ∃ acc, H4 D = some (.lst acc) ∧ acc.length < sizeLine ∧ Nx (upd H4 D (.lst (acc ++ [y]))) else Nx H3) :
    wpAny (model X.prog X.w) X.A (pyNext (.ref it)) (fun r s1 => ∃ v, r = some v ∧ wpAny (model X.prog X.w) X.A (letOwnedTupleGo tg (.ref it) v) (fun _ s2 => wpAny (model X.prog X.w) X.A (assign tg (bkX X scope s H fp).env v) (fun _ s3 =>
      wpAny (model X.prog X.w) X.A (eval elt (bkX X scope s H fp).env) (fun x s4 => wpAny (model X.prog X.w) X.A (call (.builtin "list.append") [.ref D, x]) (fun _ s5 => ∃ m, m < n ∧ AtTurn X scope s H fp (L2.wipe σ (own.map (·.2))) tn W m s5) E s4) E s3) E s2) E s1) E s5 := by
  refine thnF (T.item (bkX X scope s H fp) rfl rfl rfl hc i [] s5 _ H5 (fun _ _ => False) I5 (blk_fp I5 n5) st5 go) fun r s6 ⟨u, hr, h6⟩ => ⟨u, hr, ?_⟩
  refine thnF h6 fun _ s7 ⟨x, H7, I7, r7, y7, st7, n7⟩ => ?_
  have I7' := I7.pinned (blk_fp I7 n7) (T.obj _ _ st7)
  refine thnF (pg.run _ s7 _ H7 x u _ I7' r7 (step x H7 y7)) fun _ s8 ⟨σ8, H8, I8, hw, q8⟩ => ?_
  have q8 := (show if true = true then _ else _ from q8)
  rw [if_pos rfl] at q8
  refine thnF (pe.run _ s8 σ8 H8 _ I8 q8) fun z s9 ⟨y, H9, I9, r9, acc, hD, hz, nx⟩ => ?_
  refine app_ok (X := bkX X scope s H fp) I9 hD hz r9 fun s' I' => ?_
  obtain ⟨m', hm, w'⟩ := hNx _ nx
  have kept : ∀ b ∈ fp, ∀ o, s7.heap.get? b = some o → s'.heap.get? b = some o ∧ upd H9 D (.lst (acc ++ [y])) b = none := fun b hb o e =>
    let z := I'.pin (b, o) (List.mem_append_right _ (List.mem_append_right _ (mem_pinsAt hb e)))
    ⟨z.1, z.2.1⟩
  refine ⟨m', hm, i + 1, _, (I'.unpinned (pins := [])).weak (by rw [← hw, L2.wipe_length]) (fun j v e => ?_), T.keep _ _ _ st7 fun b hb o e => (kept b hb o e).1, fun b hb => ?_, w'⟩
  · rw [← hw] at e
    exact (L2.wipe_some e).1
  · obtain ⟨o, e, _⟩ := T.obj _ _ st7 b hb
    exact (kept b hb o e).2
/-- [elt for tg in iter]: elt's rule may use that the maker's state stood at the block's entry -/
theorem pe_lcI {wi : TI} {te : L2.St → TE} (hc : X.calm = true) (hN : X.N.Nodup) (hi : PI X tg iter wi) (ok : BlkOk X.N X.env.scope scope own)
    (hg : ∀ (s : Shared) (H : Hp) (C : Addr) (cl : List (Str × Addr)) (fp : List Addr), PG (X.blk s H scope (compEnvC scope cl C X.env) fp) tg g)
    (he : ∀ (pins : List (Addr × Obj)) (σ : L2.St) (s : Shared) (H : Hp) (fp : List Addr), Inv X pins σ H s → (∀ b ∈ fp, FpOk X pins H b) → PE (bkX X scope s H fp) elt (te σ)) (hs : ∀ x, foldedSetIterable iter X.env x = pure x := by intro _; rfl) :
    PE X (.ListComp elt [⟨tg, iter, [], 0⟩] scope pos) (fun σ H Q => tLc wi g (fun σ H Q => Q true H) (te σ) (own.map (·.2)) σ H Q) := by
  refine ⟨fun pins s σ H Q I h => ?_⟩
  have free : ∀ y ∈ scope.names, y.2 = .free → ∃ c, X.env.cells.lookup y.1 = some c := fun y hy e => (ok.free y hy e).elim (fun k => I.ok.has _ (.inl k)) fun k => I.ok.has _ (.inr k)
  rw [eval_ListComp]
  refine wpAny_comprehension_free (use := none) rfl hs (closure_ok free) ok.kind (fun y hy e => by rw [ok.uniq y hy, e]) (thn (hi.run pins s σ H _ I h) fun xv s1 hx => thn hx fun itv s2 h2 => ?_)
  obtain ⟨it, fp, tn, J, H2, e, I2, T, st2, f2, q⟩ := h2
  subst e
  refine wpAny_newObj_type (newEnv_comp ?_) (Nat.zero_le _)
  have hDn : H2 s2.heap.objs.size = none := I2.hok.fresh (Nat.le_refl _)
  obtain ⟨W, ⟨m0, w0⟩, turn⟩ := q _ hDn
  have keep3 : ∀ b o, s2.heap.get? b = some o → (s2.heap.push { cls := .type "list", data := .seq ([] : List Value).toArray }).get? b = some o := fun b o e => Heap.get?_push_of_some _ e
  have I3 : Inv X pins σ (upd H2 s2.heap.objs.size (.lst [])) { s2 with heap := s2.heap.push { cls := .type "list", data := .seq ([] : List Value).toArray } } :=
    I2.laid (t' := s2.toks) keep3 (Nat.le_refl _) ⟨Nat.zero_le _, [], 0, .nil, Heap.get?_push_size _ rfl⟩
  have old : ∀ b ∈ fp, b < s2.heap.objs.size := fun b hb => let ⟨o, e, _⟩ := T.obj _ _ st2 b hb; Heap.lt_size e
  have f3 : ∀ b ∈ fp, FpOk X pins (upd H2 s2.heap.objs.size (.lst [])) b ∧ b < (s2.heap.push { cls := .type "list", data := .seq ([] : List Value).toArray }).objs.size := fun b hb => by
    have hlt := old b hb
    exact ⟨⟨by rw [upd_ne (Nat.ne_of_lt hlt)]; exact (f2 b hb).1, (f2 b hb).2⟩, by rw [Heap.size_push]; exact Nat.lt_succ_of_lt hlt⟩
  have st3 := T.keep _ _ _ st2 fun b _ o e => keep3 b o e
  generalize hD : s2.heap.objs.size = D at w0 turn I3 f3
  generalize hs3 : ({ s2 with heap := s2.heap.push { cls := .type "list", data := .seq ([] : List Value).toArray } } : Shared) = s3 at I3
  have eh3 : s2.heap.push { cls := .type "list", data := .seq ([] : List Value).toArray } = s3.heap := by rw [← hs3]
  rw [eh3] at f3 st3
  generalize upd H2 D (.lst []) = H3 at w0 I3 f3
  have I4 := block_start I3 ok hN f3
  have pg := hg s3 H3 s3.heap.objs.size (cellsFrom (s3.heap.objs.size + 1) scope.names (cloFrom X.env.cells scope.names [])) fp
  have pe := he pins σ s3 H3 fp I3 fun b hb => (f3 b hb).1
  have st4 : tn 0 (pushCells (s3.heap.push { cls := .type "dict", data := .dict #[] }) scope.names) := T.keep _ _ _ st3 fun b _ o e => pushCells_keeps _ _ _ _ (Heap.get?_push_of_some _ e)
  have loop : codeAny (model X.prog X.w) X.A (.compLoop (.ListComp elt [⟨tg, iter, [], 0⟩] scope pos) 0 (.ref it) (.ref D) (bkX X scope s3 H3 fp).env)
      (compPost (model X.prog X.w) X.A X.xe none (fun u s' => ∃ v H', Inv X pins σ H' s' ∧ RelV v u ∧ Q v H') (.ref D) s3.heap.objs.size) { s3 with heap := pushCells (s3.heap.push { cls := .type "dict", data := .dict #[] }) scope.names } := by
    refine compLoop_any (AtTurn X scope s3 H3 fp (L2.wipe σ (own.map (·.2))) tn W) ?_ m0 ⟨0, H3, I4, st4, fun b hb => (f3 b hb).1.1, w0⟩
    rintro n s5 ⟨i, H5, I5, st5, n5, w5⟩
    rcases turn i n H5 w5 with ⟨stop, qq⟩ | ⟨go, Nx, hNx, step⟩
    · refine thnF (T.done (bkX X scope s3 H3 fp) rfl rfl rfl hc i [] s5 _ H5 (fun _ _ => False) I5 (blk_fp I5 n5) st5 stop) fun r s6 ⟨hr, I6⟩ => ?_
      subst hr
      have I7 : Inv X pins σ H5 s6 := I3.call' (ch := fp) I6.os I6.base I6.hok I6.bare fun b hb => ⟨(f3 b hb).1.2.2.2.1, (f3 b hb).1.2.1, (f3 b hb).1.2.2.2.2.1, (f3 b hb).1.2.2.2.2.2⟩
      obtain ⟨m, hn, _⟩ := I6.loc
      obtain ⟨k0, k1, k2, k3, k4, k5⟩ := I3.fpOk (b := s3.heap.objs.size) (H' := H5) (Nat.le_refl _) I6.free
      exact ⟨m, hn, fun h'' sb => ⟨.ref D, H5, I7.turned (t' := s6.toks) (fun b o hb e => (sb.2 b hb).trans e) k0 k1 k3 k4 k5, rfl, qq⟩⟩
    · refine thnF (turn_step (D := D) (E := fun _ _ => False) hc T pg pe I5 st5 n5 go hNx step) fun r s6 ⟨v, hr, h6⟩ => ?_
      subst hr
      refine thnF h6 fun _ s7 h7 => thnF h7 fun _ s8 h8 => ?_
      refine wpAny_pure ?_
      show if true = true then _ else _
      rw [if_pos rfl]
      exact thnF h8 fun x s9 h9 => thnF h9 fun _ s10 h10 => h10
  exact codeAny_compStart_list loop (T.self X.A 0 _ _ _ st4 loop)
end
end G

/-! GAsks: [told(ask) for ask in asks]. -/
namespace G
open PySem PySem.Spec L2 PyProof.Rows
open Evl (Ex)
/-- a slot whose name the frame does not see may hold anything -/
theorem Inv.unseen {X : Cx} {pins : List (Addr × Obj)} {σ σ2 : L2.St} {H : Hp} {s : Shared} {i : Nat} {y : Str} (I : Inv X pins σ H s) (hN : X.N[i]? = some y) (hv : ¬ Vis X.env.scope y) (hl : σ2.length = σ.length) (ha : ∀ j v, j ≠ i → σ2[j]? = some (some v) → σ[j]? = some (some v)) : Inv X pins σ2 H s := by
  obtain ⟨h1, h2, h3, h4, ⟨m, hn, hl'⟩, h6, h7, h8, h9, h10, h11⟩ := I
  refine ⟨h1, h2, h3, h4, ⟨m, hn, fun j x v e1 e2 e3 => ?_⟩, h6, h7, h8, h9, h10, hl.trans h11⟩
  by_cases e : j = i
  · subst e
    rw [hN] at e1
    cases e1
    exact absurd e3 hv
  · exact hl' j x v e1 (ha j v e e2) e3
/-- an entry of a table of lambdas -/
structure LtE (X : Cx) (j : Nat) (t : LamT) (e : E) : Prop where
  n : LamN X.N X.env.scope t.scope
  b : LamBind t
  q : t.q = X.env.qual ++ "<lambda>"
  body : ∀ (A : Around) (outer : List Env) (s : Shared) (H : Hp) (EE : XK) (f c' : Addr), Ct (lamX X A outer s H EE t.scope f c') (wxOf EE) j → JE (lamX X A outer s H EE t.scope f c') (wxOf EE) t.body e
def LtOk (X : Cx) (j : Nat) : Lt → Prop
  | .nil => True
  | .cons t e r => LtE X j t e ∧ LtOk X j r
theorem wpL_entry {X : Cx} {j : Nat} : ∀ (l : Lt) (n : Nat) (t : LamT) (σ : Sl) (cs : Cs) (Q : KD) (PX : KX), LtOk X j l → wpL n l t σ cs Q PX → ∃ e, LtE X j t e ∧ wpE e σ cs Q PX
  | .nil, n, t, σ, cs, Q, PX, _, h => by cases n <;> simp at h
  | .cons t' e r, 0, t, σ, cs, Q, PX, hl, h => by
    simp only [wpL] at h
    obtain ⟨rfl, h⟩ := h
    exact ⟨e, hl.1, h⟩
  | .cons t' e r, n + 1, t, σ, cs, Q, PX, hl, h => by
    simp only [wpL] at h
    exact wpL_entry r n t σ cs Q PX hl.2 h
section
variable {X : Cx} {W : WX} {x y : Str} {i k j : Nat} {kf : Bool} {c1 c2 c3 : Value} {scope : Scope} {q1 q2 q3 : Pos}
/-- the element's reading: the slot holds a lambda of the table -/
def tAsk (X : Cx) (j i : Nat) (kf : Bool) (c1 c2 c3 : Value) (σ : L2.St) : TE := fun σ2 H Q => L2.wipe σ2 [i] = L2.wipe σ [i] ∧ ∃ f t e, LtE X j t e ∧ σ2[i]? = some (some (.ref f)) ∧
  ∀ H1, TupX H H1 → ∀ (EE : XK) (Q' : VK), (∀ cls d H', outE kf X.K c1 c2 c3 Q cls d H' → EE cls d H') → (∀ v H', outQ kf Q v H' → Q' v H') → LamAt H1 t (cloFrom X.env.cells t.scope.names []) f ∧ tCore X.K X.mg e EE σ2 H1 Q'
theorem pe_ask1 (O : OutOk X.prog X.w X.K X.mg X.base k kf c1 c2 c3 x) (hr : Room (j + k) X.A) (hnd : X.N.Nodup) (hN : X.N[i]? = some y) (hnv : ¬ Vis X.env.scope y) {pins : List (Addr × Obj)} {σ : L2.St} {s : Shared} {H : Hp} {fp : List Addr} (I0 : Inv X pins σ H s) (hfp : ∀ b ∈ fp, FpOk X pins H b)
    (hg : Gl (bkX X scope s H fp) x) (hv : Vis (bkX X scope s H fp).env.scope y) (he : starEach [.Name y q2] (bkX X scope s H fp).env = (false, eval (.Name y q2) (bkX X scope s H fp).env) :: starEach [] (bkX X scope s H fp).env := by rfl)
    (hdx : (x == ("__debug__" : Str)) = false := by decide) (hd : (y == ("__debug__" : Str)) = false := by decide) (hcd : (y == ("__classdict__" : Str)) = false := by decide) :
    PE (bkX X scope s H fp) (.Call (.Name x q1) [.Name y q2] [] q3) (tAsk X j i kf c1 c2 c3 σ) := by
  obtain ⟨g, fd, hm, hk, hb, run⟩ := O.ex
  refine ⟨fun pins1 s1 σ1 H1 Q I ⟨hw, f, t, e, L, h0, h1⟩ => ?_⟩
  have hσ : Inv X pins σ1 H s := by
    have hl : σ1.length = σ.length := by
      have z := congrArg List.length hw
      rw [L2.wipe_length, L2.wipe_length] at z
      exact z
    refine Inv.unseen I0 hN hnv hl fun m v hm' e' => ?_
    have z : (L2.wipe σ1 [i])[m]? = some (some v) := by
      simp only [L2.wipe]
      rw [List.getElem?_set_ne (Ne.symm hm')]
      exact e'
    rw [hw] at z
    exact (L2.wipe_some z).1
  refine wpAny_Call_Name_kw (ld_glob I hg hm ?_ hdx)
  refine PySem.W.callWith_K (h₀ := X.base) I.ok.mod.kin hk (thn ((pa_cons (pe_var (X := bkX X scope s H fp) (i := i) hN hv hd hcd) pa_nil he).run q3 pins1 s1 σ1 H1 (fun vs H2 => vs = [.ref f] ∧ H2 = H1) I ⟨_, h0, rfl, rfl⟩) fun us s2 ⟨vs, H2, I1, r1, ev, eH⟩ => ⟨I1.kIn, ?_⟩) he (by rfl)
  subst ev eH
  have eu : us = [Value.ref f] := by
    cases r1 with
    | cons r rr =>
      cases rr
      rw [show _ = Value.ref f from r]
  subst eu
  have un : Un (frs X.stack) fp H H2 s.heap s2.heap := I1.base
  have R1 : LamRun X.prog X.w X.K X.mg X.base j (frs X.stack) f s2 H2 (fun E H1 Q => LamAt H1 t (cloFrom X.env.cells t.scope.names []) f ∧ tCore X.K X.mg e E σ1 H1 Q) := fun A stk s3 H3 Q E hr3 e0 un3 hq =>
    lam_runX (ex := fp) (te := fun E => tCore X.K X.mg e E) (fun z c hz hc => (hfp c hc).2.2.2.2.1 z c hz rfl) hσ L.n L.b L.q (fun A outer s H EE f c' hr hd => tCore_pe (L.body A outer s H EE f c' (lam_ct hnd hr))) f A stk s3 H3 Q E hr3 e0 (un.trans (un3.mono (fun _ h => h) fun _ h => by cases h)) hq
  have bb := hb s2 [Value.ref f] I1.kIn rfl
  refine wpAny_call (codeAny_mono (run X.A X.stack s2 H2 f (fun E H1 Q => LamAt H1 t (cloFrom X.env.cells t.scope.names []) f ∧ tCore X.K X.mg e E σ1 H1 Q) Q j hr I1.env0 bb R1 (fun E H Q h => ⟨t, _, h.1⟩) h1) fun r s' hq => ?_)
  cases r with
  | error e =>
    obtain ⟨_, _, _, _, _, _, _, _, _, _, _, _, z⟩ := hq
    exact z.elim
  | ok fl =>
    cases fl with
    | ret u => exact I1.after hq
    | next => exact False.elim hq
    | brk => exact False.elim hq
    | cont => exact False.elim hq
/-- [told(ask) for ask in asks] -/
theorem j_asks {tp pos : Pos} {iter : Expr} {isp : ISpec} {as : Es} {l : Lt} (O : OutOk X.prog X.w X.K X.mg X.base k kf c1 c2 c3 x) (ER : Errs X.K X.mg c1 c2 c3) (hl : LtOk X j l) (hr : Room (j + k) X.A) (hc : X.calm = true) (hnd : X.N.Nodup) (hN : X.N[i]? = some y) (hnv : ¬ Vis X.env.scope y)
    (hi : JI X W (.Name y tp) iter isp as) (ok : BlkOk X.N X.env.scope scope [(y, i)])
    (hgt : ∀ (s : Shared) (H : Hp) (C : Addr) (cl : List (Str × Addr)) (fp : List Addr), JG (X.blk s H scope (compEnvC scope cl C X.env) fp) (.Name y tp) (.nm i) [i])
    (hg : ∀ (s : Shared) (H : Hp) (fp : List Addr), Gl (bkX X scope s H fp) x) (hv : ∀ (s : Shared) (H : Hp) (fp : List Addr), Vis (bkX X scope s H fp).env.scope y)
    (he : ∀ (s : Shared) (H : Hp) (fp : List Addr), starEach [.Name y q2] (bkX X scope s H fp).env = (false, eval (.Name y q2) (bkX X scope s H fp).env) :: starEach [] (bkX X scope s H fp).env := by intro _ _ _; rfl)
    (hs : ∀ x, foldedSetIterable iter X.env x = pure x := by intro _; rfl)
    (hdx : (x == ("__debug__" : Str)) = false := by decide) (hd : (y == ("__debug__" : Str)) = false := by decide) (hcd : (y == ("__classdict__" : Str)) = false := by decide) :
    JE X W (.ListComp (.Call (.Name x q1) [.Name y q2] [] q3) [⟨.Name y tp, iter, [], 0⟩] scope pos) (.comp false [i] (.nm i) isp as (.c (.bl true)) (.outv kf X.env.cells (.v i) l)) := by
  obtain ⟨wi, p0, r0⟩ := hi
  let uG : TG := fun v σ H Q => ∀ (s : Shared) (H0 : Hp) (C : Addr) (cl : List (Str × Addr)) (fp : List Addr) (g : TG), PG (X.blk s H0 scope (compEnvC scope cl C X.env) fp) (.Name y tp) g → RefG (X.blk s H0 scope (compEnvC scope cl C X.env) fp) g (.nm i) [i] → g v σ H Q
  have pG : ∀ (s : Shared) (H : Hp) (C : Addr) (cl : List (Str × Addr)) (fp : List Addr), PG (X.blk s H scope (compEnvC scope cl C X.env) fp) (.Name y tp) uG := fun s H0 C cl fp => by
    obtain ⟨g, p1, r1⟩ := hgt s H0 C cl fp
    exact ⟨fun pins s' σ H v u Q I rv h => p1.run pins s' σ H v u Q I rv (h s H0 C cl fp g p1 r1)⟩
  refine ⟨_, pe_lcI (own := [(y, i)]) (te := tAsk X j i kf c1 c2 c3) hc hnd p0 ok pG (fun pins σ s H fp I0 hfp => pe_ask1 O hr hnd hN hnv I0 hfp (hg s H fp) (hv s H fp) (he s H fp) hdx hd hcd) hs, fun wd F τ cs σ H P PX Q R rs h q x => ?_⟩
  have h : wpEs as τ cs (fun ds c1 => isp ds c1 fun items grd =>
      compL (.nm i) grd (G.wipe τ [i]) (fun σ1 c2 K => K (.bl true) c2) (fun σ1 c2 K => wpE (.outv kf X.env.cells (.v i) l) σ1 c2 K (fun _ _ => False)) (fun ys c3 => P (.lst ys) c3) items [] c1) PX := h
  refine r0 wd F τ cs σ H (fun items grd c1 => compL (.nm i) grd (G.wipe τ [i]) (fun σ1 c2 K => K (.bl true) c2) (fun σ1 c2 K => wpE (.outv kf X.env.cells (.v i) l) σ1 c2 K (fun _ _ => False)) (fun ys c3 => P (.lst ys) c3) items [] c1) PX _ R rs h (fun wd1 items grd c1 J H1 l1 R1 it h1 => ?_) x
  intro Dd hD
  have fn : F Dd = none := Evl.fresh_back R1.f hD
  refine ⟨fun m mm H' => ∃ wd' cs' acc vs, wd1.le wd' ∧ Rl X.K wd' (upd F Dd (.lst vs)) cs' H' ∧ RpL X.K wd' acc vs ∧ mm = items.length - m ∧ m ≤ items.length ∧
    compL (.nm i) grd (G.wipe τ [i]) (fun σ1 c2 K => K (.bl true) c2) (fun σ1 c2 K => wpE (.outv kf X.env.cells (.v i) l) σ1 c2 K (fun _ _ => False)) (fun ys c3 => P (.lst ys) c3) (items.drop m) acc cs', ⟨items.length, wd1, c1, [], [], Wd.le.refl _, R1.fNew hD _, rfl, by simp, Nat.zero_le _, h1⟩, ?_⟩
  rintro m mm H' ⟨wd', cs', acc, vs, l', R', ra, em, hle, h'⟩
  by_cases hm : m < items.length
  · rw [List.drop_eq_getElem_cons hm] at h'
    obtain ⟨hgd, h'⟩ := h'
    obtain ⟨g0, gy⟩ := it.go wd' _ cs' H' m items[m] l' R' hgd (List.getElem?_eq_getElem hm)
    cases eb : bindP (.nm i) [items[m]] (G.wipe τ [i]) with
    | none => rw [eb] at h'; exact h'.elim
    | some τ1 =>
      rw [eb] at h'
      refine .inr ⟨g0, fun H2 => ∃ wd' cs' acc vs, wd1.le wd' ∧ Rl X.K wd' (upd F Dd (.lst vs)) cs' H2 ∧ RpL X.K wd' acc vs ∧
        compL (.nm i) grd (G.wipe τ [i]) (fun σ1 c2 K => K (.bl true) c2) (fun σ1 c2 K => wpE (.outv kf X.env.cells (.v i) l) σ1 c2 K (fun _ _ => False)) (fun ys c3 => P (.lst ys) c3) (items.drop (m + 1)) acc cs', fun H2 ⟨wd2, c2, acc2, vs2, l2, R2, ra2, h2⟩ => ⟨items.length - (m + 1), by omega, wd2, c2, acc2, vs2, l2, R2, ra2, rfl, hm, h2⟩, fun xv H2 yv => ?_⟩
      obtain ⟨wd2, l2, R2, rv⟩ := gy xv H2 yv
      have rsw : RS X.K wd2 (G.wipe τ [i]) (L2.wipe σ [i]) := ((rs.mono (l1.trans (l'.trans l2))).wipe _)
      intro s0 H0 C cl fp g p1 r1
      refine r1 wd2 _ _ cs' _ H2 items[m] xv τ1 _ R2 rsw rv eb fun σ3 rs3 w3 => ?_
      have w5 : L2.wipe σ3 [i] = L2.wipe (L2.wipe σ [i]) [i] := w3
      have w4 : L2.wipe σ3 [i] = L2.wipe σ [i] := by rw [w5, wipe_idem]
      refine ⟨w4, ?_⟩
      have h' : (D.bl true = .bl true ∧ wpE (.outv kf X.env.cells (.v i) l) τ1 cs' (fun z cs2 => acc.length < lim ∧ compL (.nm i) grd (G.wipe τ [i]) (fun σ1 c2 K => K (.bl true) c2) (fun σ1 c2 K => wpE (.outv kf X.env.cells (.v i) l) σ1 c2 K (fun _ _ => False)) (fun ys c3 => P (.lst ys) c3) (items.drop (m + 1)) (acc ++ [z]) cs2) (fun _ _ => False)) ∨ (D.bl true = .bl false ∧ _) := h'
      rcases h' with ⟨_, h'⟩ | ⟨z, _⟩
      · show if true = true then _ else _
        rw [if_pos rfl]
        simp only [wpE] at h'
        cases ev : getV τ1 i with
        | none => rw [ev] at h'; exact h'.elim
        | some dv =>
          rw [ev] at h'
          cases dv with
          | clo n t cl' =>
            obtain ⟨ecl, hw⟩ := h'
            subst ecl
            obtain ⟨e, L, hw⟩ := wpL_entry l n t _ _ _ _ hl hw
            obtain ⟨v3, es3, f, c', dV, ev3, b1, b2, b3⟩ := rs3.at_ i _ ev
            subst ev3
            refine ⟨w4, f, t, e, L, es3, fun H5 x5 EE Q' hE hQ => ?_⟩
            have R5 := R2.more x5
            refine ⟨⟨c', dV, R5.b _ _ b1, R5.b _ _ b2, b3.imp id fun ⟨n, p, e1, e2⟩ => ⟨n, p, e1, R5.b _ _ e2⟩⟩, ?_⟩
            have qq : QOk X.K wd2 (upd F Dd (.lst vs)) (fun z cs2 => acc.length < lim ∧ compL (.nm i) grd (G.wipe τ [i]) (fun σ1 c2 K => K (.bl true) c2) (fun σ1 c2 K => wpE (.outv kf X.env.cells (.v i) l) σ1 c2 K (fun _ _ => False)) (fun ys c3 => P (.lst ys) c3) (items.drop (m + 1)) (acc ++ [z]) cs2)
                (fun yv H4 => ∃ acc, H4 Dd = some (.lst acc) ∧ acc.length < sizeLine ∧ ∃ wd' cs' acc_1 vs, wd1.le wd' ∧ Rl X.K wd' (upd F Dd (.lst vs)) cs' (upd H4 Dd (.lst (acc ++ [yv]))) ∧ RpL X.K wd' acc_1 vs ∧ compL (.nm i) grd (G.wipe τ [i]) (fun σ1 c2 K => K (.bl true) c2) (fun σ1 c2 K => wpE (.outv kf X.env.cells (.v i) l) σ1 c2 K (fun _ _ => False)) (fun ys c3 => P (.lst ys) c3) (items.drop (m + 1)) acc_1 cs') := fun wd4 d4 c4 v4 H4 l4 R4 rv4 h4 => by
              have hf : H4 Dd = some (.lst vs) := R4.f Dd _ upd_same
              have ra4 := RpL.mono (l2.trans l4) _ _ ra
              exact ⟨vs, hf, by rw [ra.length, sizeL]; exact h4.1, wd4, c4, acc ++ [d4], vs ++ [v4], l'.trans (l2.trans l4), R4.fPut (vs ++ [v4]), ra4.append ⟨v4, [], rfl, rv4, rfl⟩, h4.2⟩
            refine ⟨wd2, _, τ1, _, _, _, R5, rs3, hw, fun wd6 d c6 v H6 l6 R6 rd hp => hQ _ _ (resK_of (d := .non) R6 rd rfl (qq.mono l6) hp), fun wd6 x6 c6 cls dd H6 l6 R6 rx hx => hE _ _ _ ?_⟩
            obtain ⟨d, hi, hp⟩ := hx
            exact isEr_rp ER R6 rx hi (qq.mono l6) hp
          | _ => exact h'.elim
      · cases z
  · have ei : m = items.length := by omega
    subst ei
    rw [List.drop_length] at h'
    refine .inl ⟨it.stop wd' _ cs' H' l' R' h'.1, ?_⟩
    obtain ⟨wd2, l2, R2, r2⟩ := R'.fTree fn ra
    exact q wd2 _ _ _ _ (l1.trans (l'.trans l2)) R2 r2 h'.2
end
end G

/-! GClr: list.clear. -/
namespace G
open PySem PySem.Spec L2
open Evl (Ex)
def sClear : Spec := fun ds cs Q _ => ∃ n xs, ds = [.ref n] ∧ cs n = some (.lst xs) ∧ Q .non (put cs n (.lst []))
theorem sClear_e {n : Nat} {xs : List D} {cs : Cs} {Q : KD} {X : KX} (h : cs n = some (.lst xs)) (hQ : Q .non (put cs n (.lst []))) : sClear [.ref n] cs Q X := ⟨_, _, rfl, h, hQ⟩
section
variable {X : Cx} {W : WX} {pos apos : Pos} {o : Expr} {co : E}
theorem j_gint {x : Str} {i : Int} {pos : Pos} (hg : Gl X x) (hm : ∃ t, X.mg x = some (.int i t)) (hd : (x == ("__debug__" : Str)) = false := by decide) : JE X W (.Name x pos) (.c (.int i)) := by
  obtain ⟨t, hm⟩ := hm
  exact j_glob (v := .int i) hg hm ⟨t, rfl⟩ (fun _ => rfl) hd
theorem j_clear (ho : JE X W o co) (hbase : attributeBase o "clear" X.env (eval o X.env) = eval o X.env := by rfl) (hline : (apos.endLine == pos.line) = true := by rfl) : JE X W (.Call (.Attribute o "clear" apos) [] [] pos) (.app sClear (.cons co .nil)) := by
  obtain ⟨to, p1, r1⟩ := ho
  refine ⟨_, pe_bm0 PySem.F.plainAttrs_list PySem.F.slot_list_clear PySem.F.type_list_clear mt_clear p1 hbase hline, fun wd F τ cs σ H P PX Q R rs h q x => ?_⟩
  refine r1 wd F τ cs σ H _ PX _ R rs h (fun wd1 d c1 v H1 l1 R1 rv h1 => ?_) x
  obtain ⟨n, xs, e, ec, h1⟩ := h1
  cases e
  obtain ⟨a, vs, ea, hH, rw', put'⟩ := R1.cellAt rv ec
  subst ea
  exact ⟨Or.inl ⟨rfl, vs, SqL.of hH⟩, a, vs, rfl, rfl, hH, q wd1 .non _ _ _ l1 (put' [] [] rfl) rfl h1⟩
end
end G

/-! GSortM: sorted(set(..)) as a cell. -/
namespace G
open PySem PySem.Spec L2
def sSortSetM : Spec := fun ds cs Q _ => match ds with
  | [x] => match getL x cs with
    | some xs => ∃ ns : List Int, xs = ns.map D.int ∧ ns.length ≤ 4000 ∧ (∀ k ∈ ns, 0 ≤ k ∧ k < 63) ∧ ∀ ms : List Int, ms.Pairwise (· < ·) → (∀ k, k ∈ ms ↔ k ∈ ns) → ∀ n, cs n = none → Q (.ref n) (put cs n (.lst (ms.map D.int)))
    | none => False
  | _ => False
section
variable {X : Cx} {W : WX} {pos p p' q : Pos} {a : Expr} {ca : E}
theorem j_sortSetM (hc : X.calm = true) (hg : Gl X "sorted") (hm : X.mg "sorted" = none) (hg2 : Gl X "set") (hm2 : X.mg "set" = none) (ha : JE X W a ca) (h1 : starEach [a] X.env = (false, eval a X.env) :: starEach [] X.env := by rfl)
    (h2 : starEach [Expr.Call (.Name "set" q) [a] [] p'] X.env = (false, eval (.Call (.Name "set" q) [a] [] p') X.env) :: starEach [] X.env := by rfl) :
    JE X W (.Call (.Name "sorted" p) [.Call (.Name "set" q) [a] [] p'] [] pos) (.app sSortSetM (.cons ca .nil)) := by
  obtain ⟨ta, p1, r1⟩ := ha
  refine ⟨_, pe_callB (cr_sortedSet hc) hg hm boot_sortedG (pa_cons (pe_callTy (cr_setL hc) hg2 hm2 boot_setG (pa_cons p1 pa_nil h1) (by decide) (by decide) h1 rfl) pa_nil h2) (by decide) (by decide) h2 rfl, fun wd F τ cs σ H P PX Q R rs h q x => ?_⟩
  refine r1 wd F τ cs σ H _ PX _ R rs h (fun wd1 d c1 v H1 l1 R1 rv h1 => ?_) x
  have h1 : (match G.getL d c1 with
    | some xs => ∃ ns : List Int, xs = ns.map D.int ∧ ns.length ≤ 4000 ∧ (∀ k ∈ ns, 0 ≤ k ∧ k < 63) ∧ ∀ ms : List Int, ms.Pairwise (· < ·) → (∀ k, k ∈ ms ↔ k ∈ ns) → ∀ n, c1 n = none → P (.ref n) (put c1 n (.lst (ms.map D.int)))
    | none => False) := h1
  cases ex : G.getL d c1 with
  | none =>
    rw [ex] at h1
    exact h1.elim
  | some xs =>
    rw [ex] at h1
    obtain ⟨ns, e, hl, hb, k⟩ := h1
    subst e
    obtain ⟨a, ws, ev, hs, r⟩ := R1.getL rv ex
    have ew := ints_V r
    subst ew
    refine ⟨a, ns, by rw [ev], SqL.of hs, hl, hb, fun p c hp hc64 => ?_⟩
    obtain ⟨R2, l2⟩ := R1.new hp (SetO X.w p (fun j => decide (j ∈ ns)) c)
    refine ⟨p, _, c, rfl, upd_same, hc64, fun ms p2 hs2 hm hlen hp2 => ?_⟩
    obtain ⟨n, wd3, hn, l3, R3, r3⟩ := R2.cellL hp2 (ints_rp ms)
    exact q wd3 _ _ _ _ ((l1.trans l2).trans l3) R3 r3 (k ms hs2 (fun k => by rw [hm k]; simp) n hn)
end
end G

/-! GTop2: defs that hand over lists of lambdas. -/
namespace G
open PySem PySem.Spec L2 PyProof.Rows
def visB (sc : Scope) (y : Str) : Bool := decide (sc.names.lookup y = some .local) || (decide (sc.names.lookup y = some .cell) || decide (sc.names.lookup y = some .free))
theorem nvis {sc : Scope} {y : Str} (h : visB sc y = false) : ¬ Vis sc y := fun z => by
  unfold visB at h
  simp only [Bool.or_eq_false_iff, decide_eq_false_iff_not] at h
  rcases z with z | z | z
  · exact h.1 z
  · exact h.2.1 z
  · exact h.2.2 z
section
variable {P : Program} {w : World} {K : PySem.W.Frag} {mg : Str → Option Value} {base : Heap} {x qual : Str} {params : Arguments} {body : List Stmt} {scope : Scope} {dvs : List V} {kws : List (Str × V)} {p : Str × Option Str} {fd : FuncData} {N ps : List Str} {k : Nat} {sp : Spec}
theorem fnOk_ofE (FD : FunD K x qual params body scope dvs kws (He.fAd K p) fd) (S : FnScope N ps scope)
    (len : ∀ ds cs Q PX, sp ds cs Q PX → ds.length = ps.length) (hU : tabsU K = true) (hO : K.lookup (He.cT K p).2 = none) (hT : LamX.TabB base mg (He.cT K p).1 (He.cT K p).2)
    (hb : ∀ (cdv : Value) (A : Around) (outer : List Env) (s : Shared) (H : Hp) (E : XK), LamK K mg base cdv qual → Ct (cxOf (L2N.CX P w) P w K mg base N qual scope (He.fAd K p) cdv A outer s H E) (wxOf E) k → ∃ core, JSs (cxOf (L2N.CX P w) P w K mg base N qual scope (He.fAd K p) cdv A outer s H E) (wxOf E) body core ∧ okFn N.length core sp) : FnOk P w K mg base (L2N.CX P w) (k + 1) (He.fAd K p) fd ps (lift K mg sp) := by
  obtain ⟨oc, od, dV, kV, doc, pm, an, cdv, ct, osl, rfl, lk, hcd, _, _⟩ := FD.ex
  refine fn_of lk hcd S (fun vs H Q E h => ?_) fun A outer s H vs Q E hr h => ?_
  · obtain ⟨wd, F, cs, ds, PD, PX, R, r, s, q⟩ := h
    rw [r.length]
    exact len _ _ _ _ s
  · obtain ⟨wd, F, cs, ds, PD, PX, R, r, hs, q, xx⟩ := h
    obtain ⟨c, ec⟩ := He.codeIn_ref hcd
    have e1 : He.codeOf K p = c := He.codeOf_eq lk ec
    have hmem : (He.tabOf K c, qual ++ ".<locals>." ++ "<lambda>") ∈ tabsOf K := by
      refine List.mem_filterMap.mpr ⟨_, mem_of_lk lk, ?_⟩
      have hO' : K.lookup (He.tabOf K c) = none := by
        rw [← e1]
        exact hO
      show (match (PySem.W.fnOf x qual params body scope dV kV doc pm an cdv ct).code with
        | .ref c => if (K.lookup (He.tabOf K c)).isNone then some (He.tabOf K c, (PySem.W.fnOf x qual params body scope dV kV doc pm an cdv ct).qualname ++ ".<locals>." ++ "<lambda>") else none
        | _ => none) = _
      have e2 : (PySem.W.fnOf x qual params body scope dV kV doc pm an cdv ct).code = .ref c := ec
      rw [e2]
      show (if (K.lookup (He.tabOf K c)).isNone then some (He.tabOf K c, qual ++ ".<locals>." ++ "<lambda>") else none) = _
      rw [hO']
      rfl
    have LK : LamK K mg base cdv qual := by
      refine ⟨c, He.tabOf K c, ?_, ec, hmem, fun r hr h => ?_⟩
      · have hT : LamX.TabB base mg (He.codeOf K p) (He.tabOf K (He.codeOf K p)) := hT
        rw [e1] at hT
        exact hT
      · have z := List.all_eq_true.mp (List.all_eq_true.mp hU _ hr) _ hmem
        simp only [Bool.or_eq_true, Bool.not_eq_true', decide_eq_true_eq] at z
        rcases z with z | z
        · rw [h] at z
          simp at z
        · exact z
    obtain ⟨core, ⟨t, p1, r1⟩, ok⟩ := hb cdv A outer s H E LK ⟨rfl, S.nd, passes_of rfl, L2N.takes_of rfl rfl rfl rfl, hr⟩
    refine ⟨t, p1, ?_⟩
    exact r1 wd F _ cs _ H _ _ R (rs_start r) (ok ds cs PD PX hs) ⟨fun wd' τ cs' σ H' l R' rs' h' => q wd' .non cs' .non H' l R' rfl h', fun _ _ _ _ _ _ _ _ z => z.elim, fun _ _ _ _ _ _ _ _ z => z.elim, q, fun wd' y τ cs' σ cls dd H' l R' rs' rx z => xx wd' y cs' cls dd H' l R' rx z⟩
end
end G

/-! GDict: dicts as cells. -/
namespace G
open PySem PySem.Spec L2
def valA (l : DL) (k : Key) : Option D := (l.find? fun p => decide (p.1 = k)).map (·.2)
theorem kD_inj {a b : Key} (h : kD a = kD b) : a = b := by
  cases a <;> cases b <;> simp only [kD, D.int.injEq, D.str.injEq, reduceCtorEq] at h <;> rw [h]
theorem kDs_inj : ∀ {a b : List Key}, a.map kD = b.map kD → a = b
  | [], [], _ => rfl
  | [], _ :: _, h => by simp at h
  | _ :: _, [], h => by simp at h
  | x :: a, y :: b, h => by
    simp only [List.map_cons, List.cons.injEq] at h
    rw [kD_inj h.1, kDs_inj h.2]
/-- the same keys, the values told -/
structure DicR (K : PySem.W.Frag) (wd : Wd) (l : DL) (kvs : List (Key × V)) : Prop where
  ks : l.map (·.1) = kvs.map (·.1)
  vs : RpL K wd (l.map (·.2)) (kvs.map (·.2))
section
variable {K : PySem.W.Frag} {wd wd' : Wd} {F H : Hp} {cs : Cs}
theorem dicR_inv {l : DL} {u : HO} (h : RpO K wd (dicO l) u) : ∃ kvs, u = .dK kvs ∧ DicR K wd l kvs := by
  obtain ⟨kvs, e, k, r⟩ := h
  refine ⟨kvs, e, kDs_inj ?_, r⟩
  rw [List.map_map, List.map_map]
  exact k
theorem DicR.o {l : DL} {kvs : List (Key × V)} (h : DicR K wd l kvs) : RpO K wd (dicO l) (.dK kvs) := by
  refine ⟨kvs, rfl, ?_, h.vs⟩
  have := congrArg (List.map kD) h.ks
  rw [List.map_map, List.map_map] at this
  exact this
theorem DicR.cons_inv {p : Key × D} {l : DL} {q : Key × V} {kvs : List (Key × V)} (h : DicR K wd (p :: l) (q :: kvs)) : p.1 = q.1 ∧ Rp K wd p.2 q.2 ∧ DicR K wd l kvs := by
  have a := h.ks
  simp only [List.map_cons, List.cons.injEq] at a
  obtain ⟨v, r, e, b, c⟩ := h.vs
  simp only [List.map_cons, List.cons.injEq] at e
  exact ⟨a.1, by rw [e.1]; exact b, a.2, by rw [e.2]; exact c⟩
theorem DicR.nil : DicR K wd [] [] := ⟨rfl, rfl⟩
theorem DicR.cons {p : Key × D} {l : DL} {q : Key × V} {kvs : List (Key × V)} (h1 : p.1 = q.1) (h2 : Rp K wd p.2 q.2) (h : DicR K wd l kvs) : DicR K wd (p :: l) (q :: kvs) :=
  ⟨by simp only [List.map_cons, h1, h.ks], q.2, kvs.map (·.2), rfl, h2, h.vs⟩
theorem DicR.ind {M : DL → List (Key × V) → Prop} (h0 : M [] []) (hs : ∀ p l q kvs, p.1 = q.1 → Rp K wd p.2 q.2 → DicR K wd l kvs → M l kvs → M (p :: l) (q :: kvs)) : ∀ {l : DL} {kvs : List (Key × V)}, DicR K wd l kvs → M l kvs
  | [], [], _ => h0
  | [], _ :: _, h => by have := h.ks; simp at this
  | _ :: _, [], h => by have := h.ks; simp at this
  | p :: l, q :: kvs, h => by
    obtain ⟨a, b, c⟩ := h.cons_inv
    exact hs p l q kvs a b c (DicR.ind h0 hs c)
theorem DicR.mono {l : DL} {kvs : List (Key × V)} (h : DicR K wd l kvs) (le : wd.le wd') : DicR K wd' l kvs := ⟨h.ks, RpL.mono le _ _ h.vs⟩
theorem DicR.len {l : DL} {kvs : List (Key × V)} (h : DicR K wd l kvs) : l.length = kvs.length := by
  have := congrArg List.length h.ks
  simpa using this
theorem DicR.some {l : DL} {kvs : List (Key × V)} {k : Key} {d : D} (h : DicR K wd l kvs) : valA l k = some d → ∃ v, valV kvs k = some v ∧ Rp K wd d v := by
  refine DicR.ind (M := fun l kvs => valA l k = Option.some d → ∃ v, valV kvs k = Option.some v ∧ Rp K wd d v) ?_ ?_ h
  · intro e
    simp [valA] at e
  · intro p l q kvs h1 h2 _ ih e
    unfold valA at e
    by_cases z : p.1 = k
    · rw [List.find?_cons_of_pos (by simpa using z)] at e
      cases e
      exact ⟨q.2, valV_pos (h1.symm.trans z), h2⟩
    · rw [List.find?_cons_of_neg (by simpa using z)] at e
      obtain ⟨v, a, b⟩ := ih e
      exact ⟨v, by rw [valV_neg (fun y => z (h1.trans y))]; exact a, b⟩
theorem DicR.none {l : DL} {kvs : List (Key × V)} {k : Key} (h : DicR K wd l kvs) : valA l k = none → valV kvs k = none := by
  refine DicR.ind (M := fun l kvs => valA l k = Option.none → valV kvs k = Option.none) ?_ ?_ h
  · intro _
    rfl
  · intro p l q kvs h1 h2 _ ih e
    unfold valA at e
    by_cases z : p.1 = k
    · rw [List.find?_cons_of_pos (by simpa using z)] at e
      cases e
    · rw [List.find?_cons_of_neg (by simpa using z)] at e
      rw [valV_neg (fun y => z (h1.trans y))]
      exact ih e
theorem DicR.any {l : DL} {kvs : List (Key × V)} {k : Key} (h : DicR K wd l kvs) : (l.any fun p => decide (p.1 = k)) = kvs.any fun p => decide (p.1 = k) := by
  refine DicR.ind (M := fun l kvs => (l.any fun p => decide (p.1 = k)) = kvs.any fun p => decide (p.1 = k)) rfl ?_ h
  intro p l q kvs h1 h2 _ ih
  rw [List.any_cons, List.any_cons, ih, h1]
theorem DicR.put {l : DL} {kvs : List (Key × V)} {k : Key} {d : D} {v : V} (h : DicR K wd l kvs) (r : Rp K wd d v) : DicR K wd (putA l k d) (putK kvs k v) := by
  unfold putA putK
  rw [h.any (k := k)]
  by_cases z : (kvs.any fun p => decide (p.1 = k)) = true
  · rw [if_pos z, if_pos z]
    refine DicR.ind (M := fun l kvs => DicR K wd (l.map fun p => if p.1 = k then (p.1, d) else p) (kvs.map fun p => if p.1 = k then (p.1, v) else p)) DicR.nil ?_ h
    intro p l q kvs h1 h2 _ ih
    rw [List.map_cons, List.map_cons]
    by_cases y : p.1 = k
    · rw [if_pos y, if_pos (h1.symm.trans y)]
      exact DicR.cons h1 r ih
    · rw [if_neg y, if_neg (fun e => y (h1.trans e))]
      exact DicR.cons h1 h2 ih
  · rw [if_neg z, if_neg z]
    refine ⟨by simp only [List.map_append, h.ks]; rfl, ?_⟩
    rw [List.map_append, List.map_append]
    exact h.vs.append (es := [d]) (ws := [v]) ⟨v, [], rfl, r, rfl⟩
theorem Rp.key {k : Key} {v : V} (h : Rp K wd (kD k) v) : v = kV k := by
  cases k with
  | inl i => exact h
  | inr x => exact h
theorem Rp.key_of {k : Key} : Rp K wd (kD k) (kV k) := by
  cases k with
  | inl i => exact rfl
  | inr x => exact rfl
/-- the dict of a cell -/
theorem Rl.dicAt (R : Rl K wd F cs H) {n : Nat} {v : V} {l : DL} (r : Rp K wd (.ref n) v) (hc : cs n = some (dicO l)) :
    ∃ a kvs, v = .ref a ∧ H a = some (.dK kvs) ∧ DicR K wd l kvs ∧ ∀ l' kvs', DicR K wd l' kvs' → Rl K wd F (put cs n (dicO l')) (upd H a (.dK kvs')) := by
  obtain ⟨a, e1, e2⟩ := r
  obtain ⟨a', u, f1, f2, f3, f4, f5⟩ := R.cell n _ hc
  have ea : a' = a := Option.some.inj (f1.symm.trans e1)
  subst ea
  obtain ⟨kvs, rfl, hr⟩ := dicR_inv f5
  exact ⟨a', kvs, e2, f4, hr, fun l' kvs' h => R.write ⟨_, hc⟩ f1 h.o⟩
theorem Rl.cellD (R : Rl K wd F cs H) {p : Addr} (hp : H p = none) {l : DL} {kvs : List (Key × V)} (r : DicR K wd l kvs) :
    ∃ n wd', cs n = none ∧ wd.le wd' ∧ Rl K wd' F (G.put cs n (dicO l)) (upd H p (.dK kvs)) ∧ Rp K wd' (.ref n) (.ref p) := by
  obtain ⟨n, wd', hn, le, hr, R'⟩ := R.cellNew hp r.o
  exact ⟨n, wd', hn, le, R', p, hr, rfl⟩
end
/-! ### rules -/
def sDNew : Spec := fun ds cs Q _ => ds = [] ∧ ∀ n, cs n = none → Q (.ref n) (put cs n (dicO []))
def sDIx : Spec := fun ds cs Q _ => ∃ n l k d, ds = [.ref n, kD k] ∧ cs n = some (dicO l) ∧ valA l k = some d ∧ Q d cs
def chkD (d : D) (cs : Cs) : Prop := ∃ n l, d = .ref n ∧ cs n = some (dicO l)
def sDGet2 : Spec := fun ds cs Q _ => ∃ n l k d, ds = [.ref n, kD k, d] ∧ cs n = some (dicO l) ∧ Q ((valA l k).getD d) cs
/-- value, dict, key -/
def sDPut : Spec := fun ds cs Q _ => ∃ n l k v, ds = [v, .ref n, kD k] ∧ cs n = some (dicO l) ∧ l.length < lim ∧ Q .non (put cs n (dicO (putA l k v)))
def sListD : Spec := fun ds cs Q _ => ∃ n l, ds = [.ref n] ∧ cs n = some (dicO l) ∧ Q (.lst (l.map fun p => kD p.1)) cs
def sSortD : Spec := fun ds cs Q _ => ∃ n l, ∃ ks : List Int, ds = [.ref n] ∧ cs n = some (dicO l) ∧ l.map (·.1) = ks.map Sum.inl ∧ ks.length < 64 ∧ ∀ ys : List Int, ys.Perm ks → ys.Pairwise (· ≤ ·) → Q (.lst (ys.map D.int)) cs
def sDCopy : Spec := fun ds cs Q _ => ∃ n l, ds = [.ref n] ∧ cs n = some (dicO l) ∧ ∀ m, cs m = none → Q (.ref m) (put cs m (dicO l))
/-- dict(pairs) -/
def mergeA (l r : DL) : DL := r.foldl (fun l p => putA l p.1 p.2) l
def sDPairs : Spec := fun ds cs Q _ => ∃ x, ∃ l : DL, ds = [x] ∧ getL x cs = some (l.map fun p => .tup [kD p.1, p.2]) ∧ ∀ m, cs m = none → Q (.ref m) (put cs m (dicO (mergeA [] l)))
section
variable {X : Cx} {W : WX} {pos apos cpos p : Pos} {o i e f value : Expr} {co ci ce cf cv : E}
theorem j_dnew : JE X W (.Dict [] [] pos) (.app sDNew .nil) := by
  refine ⟨_, pe_dnewK, fun wd F τ cs σ H P PX Q R rs h q x => ?_⟩
  intro a ha
  obtain ⟨n, wd', hn, le, R', r⟩ := R.cellD ha (l := []) (kvs := []) DicR.nil
  exact q wd' _ _ _ _ le R' r (h.2 n hn)
theorem j_dix (hu : X.A.units + 64 < cLine) (ho : JE X W o co) (hi : JE X W i ci) (hs : NoSl i := by exact fun _ _ => rfl) : JE X W (.Subscript o i pos) (.app sDIx (.cons co (.cons ci .nil))) := by
  obtain ⟨to, p1, r1⟩ := ho
  obtain ⟨ti, p2, r2⟩ := hi
  refine ⟨_, pe_dget (by omega) p1 p2 hs, fun wd F τ cs σ H P PX Q R rs h q x => ?_⟩
  refine r1 wd F τ cs σ H _ PX _ R rs h (fun wd1 d1 c1 v1 H1 l1 R1 rv1 h1 => ?_) x
  refine r2 wd1 F τ c1 σ H1 _ PX _ R1 (rs.mono l1) h1 (fun wd2 d2 c2 v2 H2 l2 R2 rv2 h2 => ?_) (x.mono l1)
  obtain ⟨n, l, k, d, ed, hc, hv, hP⟩ := h2
  simp only [List.cons.injEq, and_true] at ed
  obtain ⟨e1, e2⟩ := ed
  subst e1 e2
  obtain ⟨a, kvs, ea, hH, hr, _⟩ := R2.dicAt (Rp.mono l2 _ _ rv1) hc
  obtain ⟨v, hv1, hv2⟩ := hr.some hv
  refine ⟨a, v, ea, ?_, q wd2 d c2 v H2 (l1.trans l2) R2 hv2 hP⟩
  rw [Rp.key rv2, ← hv1]
  exact DGet.k hH
theorem j_dget2 (hu : X.A.units + 64 < cLine) (ho : JE X W o co) (he : JE X W e ce) (hf : JE X W f cf) (hb : attributeBase o "get" X.env (eval o X.env) = eval o X.env := by rfl)
    (hw : ((backTo cpos (starEach [e, f] X.env)).all (fun x => !x.1) && (backToKw cpos (keywordEach [] X.env)).all (fun x => x.1.isSome) && decide (([e, f] : List Expr).length + ([] : List Keyword).length + (if ([] : List Keyword).isEmpty then 0 else 1) < 30)) = true := by rfl)
    (hl : (apos.endLine == cpos.line) = true := by rfl) (ht : backTo cpos (starEach [e, f] X.env) = [(false, eval e X.env), (false, eval f X.env)] := by rfl) : JE X W (.Call (.Attribute o "get" apos) [e, f] [] cpos) (.meth chkD sDGet2 co (.cons ce (.cons cf .nil))) := by
  obtain ⟨to, p1, r1⟩ := ho
  obtain ⟨te, p2, r2⟩ := he
  obtain ⟨tf, p3, r3⟩ := hf
  refine ⟨_, pe_dget2 (by omega) p1 p2 p3 ⟨hb, hw, hl, ht⟩, fun wd F τ cs σ H P PX Q R rs h q x => ?_⟩
  refine r1 wd F τ cs σ H _ PX _ R rs h (fun wd1 d1 c1 v1 H1 l1 R1 rv1 h1 => ?_) x
  obtain ⟨⟨n0, l0, e0, hc0⟩, h1⟩ := h1
  subst e0
  obtain ⟨a0, kvs0, ea0, hH0, _, _⟩ := R1.dicAt rv1 hc0
  refine ⟨a0, ea0, .inl ⟨kvs0, .inl hH0⟩, ?_⟩
  refine r2 wd1 F τ c1 σ H1 _ PX _ R1 (rs.mono l1) h1 (fun wd2 d2 c2 v2 H2 l2 R2 rv2 h2 => ?_) (x.mono l1)
  refine r3 wd2 F τ c2 σ H2 _ PX _ R2 (rs.mono (l1.trans l2)) h2 (fun wd3 d3 c3 v3 H3 l3 R3 rv3 h3 => ?_) (x.mono (l1.trans l2))
  obtain ⟨n, l, k, d, ed, hc, hP⟩ := h3
  simp only [List.cons.injEq, and_true, D.ref.injEq] at ed
  obtain ⟨e1, e2, e3⟩ := ed
  subst e1 e2 e3
  obtain ⟨a, kvs, ea, hH, hr, _⟩ := R3.dicAt (Rp.mono (l2.trans l3) _ _ rv1) hc
  have eaa : a0 = a := by
    rw [ea0] at ea
    cases ea
    rfl
  subst eaa
  have ek := Rp.key (Rp.mono l3 _ _ rv2)
  have lt := l1.trans (l2.trans l3)
  cases hv : valA l k with
  | none =>
    rw [hv] at hP
    exact ⟨_, by rw [ek]; exact DGet.k hH, by rw [hr.none hv]; exact q wd3 d3 c3 v3 H3 lt R3 rv3 hP⟩
  | some d' =>
    rw [hv] at hP
    obtain ⟨v, w1, w2⟩ := hr.some hv
    exact ⟨_, by rw [ek]; exact DGet.k hH, by rw [w1]; exact q wd3 d' c3 v H3 lt R3 w2 hP⟩
theorem js_dput (hu : X.A.units + 64 < cLine) (hv : JE X W value cv) (ho : JE X W o co) (hi : JE X W i ci) (hs : swapsWith value (some (.Subscript o i apos)) pos.line X.env = pure false := by rfl) : JS X W (.Assign [.Subscript o i apos] value pos) (.exp (.app sDPut (.cons cv (.cons co (.cons ci .nil))))) := by
  obtain ⟨tv, p1, r1⟩ := hv
  obtain ⟨to, p2, r2⟩ := ho
  obtain ⟨ti, p3, r3⟩ := hi
  refine ⟨_, ps_dput (by omega) p2 p3 p1 hs, fun wd F τ cs σ H P Q R rs h q => ?_⟩
  refine r1 wd F τ cs σ H _ _ _ R rs h (fun wd1 d1 c1 v1 H1 l1 R1 rv1 h1 => ?_) (q.xok rs)
  refine r2 wd1 F τ c1 σ H1 _ _ _ R1 (rs.mono l1) h1 (fun wd2 d2 c2 v2 H2 l2 R2 rv2 h2 => ?_) ((q.xok rs).mono l1)
  refine r3 wd2 F τ c2 σ H2 _ _ _ R2 (rs.mono (l1.trans l2)) h2 (fun wd3 d3 c3 v3 H3 l3 R3 rv3 h3 => ?_) ((q.xok rs).mono (l1.trans l2))
  obtain ⟨n, l, k, v, ed, hc, hl, hP⟩ := h3
  simp only [List.cons.injEq, and_true] at ed
  obtain ⟨e1, e2, e3⟩ := ed
  subst e1 e2 e3
  obtain ⟨a, kvs, ea, hH, hr, put'⟩ := R3.dicAt (Rp.mono l3 _ _ rv2) hc
  have l13 := l1.trans (l2.trans l3)
  refine ⟨a, _, ea, ?_, q.nx wd3 τ _ σ _ l13 (put' _ _ (hr.put (k := k) (Rp.mono (l2.trans l3) _ _ rv1))) (rs.mono l13) hP⟩
  rw [Rp.key rv3]
  exact DPut.k hH (by rw [sizeL, ← hr.len]; exact hl)
theorem keys_rp {K : PySem.W.Frag} {wd : Wd} {l : DL} {kvs : List (Key × V)} (h : DicR K wd l kvs) : RpL K wd (l.map fun p => kD p.1) (kvs.map fun p => kV p.1) := by
  refine DicR.ind (M := fun l kvs => RpL K wd (l.map fun p => kD p.1) (kvs.map fun p => kV p.1)) rfl ?_ h
  intro p l q kvs h1 _ _ ih
  have e : kV q.1 = kV p.1 := by rw [h1]
  exact ⟨kV p.1, _, by rw [List.map_cons, e], Rp.key_of, ih⟩
theorem refn_listD {K : PySem.W.Frag} : RefN K rListD sListD := by
  intro wd F cs H ds vs P PX Q R r hs q
  obtain ⟨n, l, rfl, hc, hP⟩ := hs
  obtain ⟨v, ev, rv⟩ := r.one
  obtain ⟨a, kvs, ea, hH, hr, _⟩ := R.dicAt rv hc
  refine ⟨a, kvs, by rw [ev, ea], hH, fun b hb => ?_⟩
  obtain ⟨wd2, l2, R2, r2⟩ := R.lst hb (keys_rp hr)
  exact q wd2 _ cs _ _ l2 R2 r2 hP
theorem j_listD (hc : X.calm = true) (hg : Gl X "list") (hm : X.mg "list" = none) (ha : JE X W e ce) (h1 : starEach [e] X.env = (false, eval e X.env) :: starEach [] X.env := by rfl) : JE X W (.Call (.Name "list" p) [e] [] pos) (.app sListD (.cons ce .nil)) :=
  j_bltnTy (call_list_dK hc) refn_listD hg hm (by rfl) (ja_cons ha ja_nil h1) (he := h1) (hpl := rfl)
end
end G

/-! GExt: list.extend. -/
namespace G
open PySem PySem.Spec L2
open Evl (Ex)
def sExtend : Spec := fun ds cs Q _ => ∃ n y xs zs, ds = [.ref n, y] ∧ cs n = some (.lst xs) ∧ getL y cs = some zs ∧ xs.length + zs.length ≤ lim ∧ Q .non (put cs n (.lst (xs ++ zs)))
theorem sExtend_e {n : Nat} {y : D} {xs zs : List D} {cs : Cs} {Q : KD} {X : KX} (h : cs n = some (.lst xs)) (hy : getL y cs = some zs) (hl : xs.length + zs.length ≤ lim) (hQ : Q .non (put cs n (.lst (xs ++ zs)))) : sExtend [.ref n, y] cs Q X := ⟨_, _, _, _, rfl, h, hy, hl, hQ⟩
section
variable {X : Cx} {W : WX} {pos apos : Pos} {o e : Expr} {co ce : E}
theorem refm_extend : RefM X.K rExtend sExtend := by
  intro wd F cs H d ds v vs P PX Q R rv rvs h q
  obtain ⟨n, y, xs, zs, e1, ec, ey, hl, hP⟩ := h
  cases e1
  obtain ⟨a, ws, ea, hH, rw', put'⟩ := R.cellAt rv ec
  obtain ⟨w, ew, rw2⟩ := rvs.one
  obtain ⟨b, us, eb, hb, rb⟩ := R.getL rw2 ey
  exact ⟨a, b, ws, us, ea, by rw [ew, eb], hH, hb, by rw [rw'.length, rb.length, sizeL]; exact hl, q wd .non _ _ _ (Wd.le.refl _) (put' _ _ (rw'.append rb)) rfl hP⟩
theorem j_extend (ho : JE X W o co) (ha : JE X W e ce) (hs : starEach [e] X.env = (false, eval e X.env) :: starEach [] X.env := by rfl) (hbase : attributeBase o "extend" X.env (eval o X.env) = eval o X.env := by rfl)
    (hfew : ((backTo pos (starEach [e] X.env)).all (fun x => !x.1) && (backToKw pos (keywordEach [] X.env)).all (fun x => x.1.isSome)
      && decide ([e].length + ([] : List Keyword).length + (if ([] : List Keyword).isEmpty then 0 else 1) < 30)) = true := by rfl)
    (hline : (apos.endLine == pos.line) = true := by rfl) : JE X W (.Call (.Attribute o "extend" apos) [e] [] pos) (.meth chkL sExtend co (.cons ce .nil)) :=
  j_methL PySem.F.slot_list_extend PySem.F.type_list_extend mt_extend refm_extend ho (ja_cons ha ja_nil hs) hbase hfew hline hs rfl
end
end G

/-! GMisc: dict.clear, max of a list, int of a bool, str of an int, join, list.pop, list.remove. -/
namespace G
open PySem PySem.Spec L2
open Evl (Ex)
def sDClear : Spec := fun ds cs Q _ => ∃ n l, ds = [.ref n] ∧ cs n = some (dicO l) ∧ Q .non (put cs n (dicO []))
def sMaxL : Spec := fun ds cs Q _ => ∃ x, ∃ ns : List Int, ds = [x] ∧ getL x cs = some (ns.map D.int) ∧ 0 < ns.length ∧ ∀ m, m ∈ ns → (∀ y ∈ ns, y ≤ m) → Q (.int m) cs
def sMinL : Spec := fun ds cs Q _ => ∃ x, ∃ ns : List Int, ds = [x] ∧ getL x cs = some (ns.map D.int) ∧ 0 < ns.length ∧ ∀ m, m ∈ ns → (∀ y ∈ ns, m ≤ y) → Q (.int m) cs
def sToInt : Spec := fun ds cs Q _ => match ds with
  | [.int i] => Q (.int i) cs
  | [.bl b] => Q (.int (if b then 1 else 0)) cs
  | _ => False
def sStrI : Spec := fun ds cs Q _ => ∃ i : Int, ds = [.int i] ∧ i.natAbs.log2 < 1920 ∧ Q (.str (toString i)) cs
def sJoin : Spec := fun ds cs Q _ => ∃ x a, ∃ ys : List Str, ds = [.str a, x] ∧ getL x cs = some (ys.map D.str) ∧ (ys.map (·.length)).sum + ys.length * a.length ≤ 16777216 ∧ Q (.str (Txt.join a ys)) cs
def sPop : Spec := fun ds cs Q _ => ∃ n xs y, ds = [.ref n] ∧ cs n = some (.lst xs) ∧ xs[xs.length - 1]? = some y ∧ Q y (put cs n (.lst xs.dropLast))
def sRemove : Spec := fun ds cs Q _ => ∃ n, ∃ ns : List Int, ∃ k : Int, ∃ j : Nat, ds = [.ref n, .int k] ∧ cs n = some (.lst (ns.map D.int)) ∧ ns[j]? = some k ∧ (∀ m : Nat, m < j → ns[m]? ≠ some k) ∧ Q .non (put cs n (.lst ((ns.eraseIdx j).map D.int)))
theorem asInts_map : ∀ ns : List Int, asInts (ns.map D.int) = some ns
  | [] => rfl
  | i :: ns => by
    show (asInts (ns.map D.int)).map (i :: ·) = _
    rw [asInts_map ns]
    rfl
theorem rpL_ints {K : PySem.W.Frag} {wd : Wd} {ns : List Int} {vs : List V} (h : RpL K wd (ns.map D.int) vs) : vs = ns.map V.int := asInts_V h (asInts_map ns)
theorem rpL_of_ints {K : PySem.W.Frag} {wd : Wd} : ∀ ns : List Int, RpL K wd (ns.map D.int) (ns.map V.int)
  | [] => rfl
  | i :: ns => ⟨_, _, rfl, rfl, rpL_of_ints ns⟩
theorem rpL_strs {K : PySem.W.Frag} {wd : Wd} : ∀ {is : List Str} {vs : List V}, RpL K wd (is.map D.str) vs → vs = is.map V.str
  | [], vs, h => h
  | i :: is, vs, h => by
    obtain ⟨v, ws, e, a, b⟩ := h
    rw [e, rpL_strs b, show v = .str i from a]
    rfl
theorem RpL.dropLast {K : PySem.W.Frag} {wd : Wd} {ds : List D} {vs : List V} (h : RpL K wd ds vs) : RpL K wd ds.dropLast vs.dropLast := by
  rw [List.dropLast_eq_take, List.dropLast_eq_take, h.length]
  exact h.take _
section
variable {X : Cx} {W : WX} {pos apos p : Pos} {o a e : Expr} {co ca ce : E}
theorem j_dclear (ho : JE X W o co) (hbase : attributeBase o "clear" X.env (eval o X.env) = eval o X.env := by rfl) (hline : (apos.endLine == pos.line) = true := by rfl) : JE X W (.Call (.Attribute o "clear" apos) [] [] pos) (.app sDClear (.cons co .nil)) := by
  obtain ⟨to, p1, r1⟩ := ho
  refine ⟨_, pe_dclear p1 hbase hline, fun wd F τ cs σ H P PX Q R rs h q x => ?_⟩
  refine r1 wd F τ cs σ H _ PX _ R rs h (fun wd1 d c1 v H1 l1 R1 rv h1 => ?_) x
  obtain ⟨n, l, e, ec, h1⟩ := h1
  cases e
  obtain ⟨a, kvs, ea, hH, hr, put'⟩ := R1.dicAt rv ec
  subst ea
  refine ⟨?_, a, kvs, rfl, rfl, hH, q wd1 .non _ _ _ l1 (put' [] [] DicR.nil) rfl h1⟩
  exact Or.inr (Or.inr (Or.inl ⟨rfl, .inl ⟨kvs, hH⟩⟩))
theorem j_pop (ho : JE X W o co) (hbase : attributeBase o "pop" X.env (eval o X.env) = eval o X.env := by rfl) (hline : (apos.endLine == pos.line) = true := by rfl) : JE X W (.Call (.Attribute o "pop" apos) [] [] pos) (.app sPop (.cons co .nil)) := by
  obtain ⟨to, p1, r1⟩ := ho
  refine ⟨_, pe_bm0 PySem.F.plainAttrs_list PySem.F.slot_list_pop PySem.F.type_list_pop mt_pop p1 hbase hline, fun wd F τ cs σ H P PX Q R rs h q x => ?_⟩
  refine r1 wd F τ cs σ H _ PX _ R rs h (fun wd1 d c1 v H1 l1 R1 rv h1 => ?_) x
  obtain ⟨n, xs, y, e, ec, ey, h1⟩ := h1
  cases e
  obtain ⟨a, vs, ea, hH, rw', put'⟩ := R1.cellAt rv ec
  subst ea
  obtain ⟨v, e2, rv2⟩ := rw'.get ey
  exact ⟨Or.inl ⟨rfl, vs, SqL.of hH⟩, a, vs, v, rfl, rfl, hH, by rw [rw'.length]; exact e2, q wd1 y _ _ _ l1 (put' _ _ rw'.dropLast) rv2 h1⟩
theorem refm_remove : RefM X.K rRemI sRemove := by
  intro wd F cs H d ds v vs P PX Q R rv rvs h q
  obtain ⟨n, ns, k, j, e1, ec, ej, hj, hP⟩ := h
  simp only [List.cons.injEq] at e1
  obtain ⟨e1, e2⟩ := e1
  subst e1 e2
  obtain ⟨a, ws, ea, hH, rw', put'⟩ := R.cellAt rv ec
  obtain ⟨w, ew, rw2⟩ := rvs.one
  have ei := rpL_ints rw'
  subst ei
  exact ⟨a, ns, k, j, ea, by rw [ew, show w = .int k from rw2], hH, ej, hj, q wd .non _ _ _ (Wd.le.refl _) (put' _ _ (rpL_of_ints _)) rfl hP⟩
theorem j_remove (ho : JE X W o co) (ha : JE X W a ca)
    (hbase : attributeBase o "remove" X.env (eval o X.env) = eval o X.env := by rfl)
    (hfew : ((backTo pos (starEach [a] X.env)).all (fun x => !x.1) && (backToKw pos (keywordEach [] X.env)).all (fun x => x.1.isSome)
      && decide ([a].length + ([] : List Keyword).length + (if ([] : List Keyword).isEmpty then 0 else 1) < 30)) = true := by rfl)
    (hline : (apos.endLine == pos.line) = true := by rfl) (h1 : starEach [a] X.env = (false, eval a X.env) :: starEach [] X.env := by rfl) :
    JE X W (.Call (.Attribute o "remove" apos) [a] [] pos) (.meth chkL sRemove co (.cons ca .nil)) :=
  j_methL PySem.F.slot_list_remove PySem.F.type_list_remove mt_remove refm_remove ho (ja_cons ha ja_nil h1) hbase hfew hline h1 rfl
theorem refn_max : RefN X.K (rMax X.K) sMaxL := by
  intro wd F cs H ds vs P PX Q R r hs q
  obtain ⟨x, ns, rfl, ex, h0, hP⟩ := hs
  obtain ⟨v, ev, rv⟩ := r.one
  obtain ⟨a, ws, e2, s, r2⟩ := R.getL rv ex
  have := rpL_ints r2
  subst this
  exact ⟨a, ns, by rw [ev, e2], SqL.of s, h0, fun m h1 h2 => q wd (.int m) cs _ H (Wd.le.refl _) R rfl (hP m h1 h2)⟩
theorem refn_min : RefN X.K (rMin X.K) sMinL := by
  intro wd F cs H ds vs P PX Q R r hs q
  obtain ⟨x, ns, rfl, ex, h0, hP⟩ := hs
  obtain ⟨v, ev, rv⟩ := r.one
  obtain ⟨a, ws, e2, s, r2⟩ := R.getL rv ex
  have := rpL_ints r2
  subst this
  exact ⟨a, ns, by rw [ev, e2], SqL.of s, h0, fun m h1 h2 => q wd (.int m) cs _ H (Wd.le.refl _) R rfl (hP m h1 h2)⟩
theorem j_maxL (hc : X.calm = true) (hg : Gl X "max") (hm : X.mg "max" = none) (ha : JE X W a ca) (h1 : starEach [a] X.env = (false, eval a X.env) :: starEach [] X.env := by rfl) : JE X W (.Call (.Name "max" p) [a] [] pos) (.app sMaxL (.cons ca .nil)) :=
  j_bltn (cr_max hc) refn_max hg hm boot_maxG (ja_cons ha ja_nil h1) (he := h1) (hpl := rfl)
theorem j_minL (hc : X.calm = true) (hg : Gl X "min") (hm : X.mg "min" = none) (ha : JE X W a ca) (h1 : starEach [a] X.env = (false, eval a X.env) :: starEach [] X.env := by rfl) : JE X W (.Call (.Name "min" p) [a] [] pos) (.app sMinL (.cons ca .nil)) :=
  j_bltn (cr_min hc) refn_min hg hm boot_minG (ja_cons ha ja_nil h1) (he := h1) (hpl := rfl)
theorem refn_toInt {K : PySem.W.Frag} : RefN K (fun xs H Q => (∃ i, xs = [.int i] ∧ Q (.int i) H) ∨ ∃ k, xs = [.bl k] ∧ Q (.int (if k then 1 else 0)) H) sToInt := by
  intro wd F cs H ds vs P PX Q R r hs q
  unfold sToInt at hs
  split at hs
  · obtain ⟨v, ev, rv⟩ := r.one
    exact .inl ⟨_, by rw [ev, show v = _ from rv], q wd (.int _) cs _ H (Wd.le.refl _) R rfl hs⟩
  · obtain ⟨v, ev, rv⟩ := r.one
    exact .inr ⟨_, by rw [ev, show v = _ from rv], q wd (.int _) cs _ H (Wd.le.refl _) R rfl hs⟩
  · exact hs.elim
theorem j_toInt (hg : Gl X "int") (hm : X.mg "int" = none) (ha : JE X W a ca) (h1 : starEach [a] X.env = (false, eval a X.env) :: starEach [] X.env := by rfl) : JE X W (.Call (.Name "int" p) [a] [] pos) (.app sToInt (.cons ca .nil)) :=
  j_bltnTy call_int1 refn_toInt hg hm boot_intG (ja_cons ha ja_nil h1) (he := h1) (hpl := rfl)
theorem refn_strI {K : PySem.W.Frag} : RefN K (fun xs H Q => ∃ i, xs = [.int i] ∧ i.natAbs.log2 < 1920 ∧ Q (.str (toString i)) H) sStrI := by
  intro wd F cs H ds vs P PX Q R r hs q
  obtain ⟨i, rfl, hl, hP⟩ := hs
  obtain ⟨v, ev, rv⟩ := r.one
  exact ⟨i, by rw [ev, show v = _ from rv], hl, q wd (.str _) cs _ H (Wd.le.refl _) R rfl hP⟩
theorem j_strI (hg : Gl X "str") (hm : X.mg "str" = none) (ha : JE X W a ca) (h1 : starEach [a] X.env = (false, eval a X.env) :: starEach [] X.env := by rfl) : JE X W (.Call (.Name "str" p) [a] [] pos) (.app sStrI (.cons ca .nil)) :=
  j_bltnTy call_str_int refn_strI hg hm boot_strG (ja_cons ha ja_nil h1) (he := h1) (hpl := rfl)
def chkS (d : D) (_ : Cs) : Prop := ∃ a, d = .str a
theorem j_join (ho : JE X W o co) (ha : JE X W a ca) (hs : starEach [a] X.env = [(false, eval a X.env)] := by rfl) (hbase : attributeBase o "join" X.env (eval o X.env) = eval o X.env := by rfl) (hline : (apos.endLine == pos.line) = true := by rfl) :
    JE X W (.Call (.Attribute o "join" apos) [a] [] pos) (.meth chkS sJoin co (.cons ca .nil)) := by
  obtain ⟨to, p1, r1⟩ := ho
  obtain ⟨ta, p2, r2⟩ := ha
  refine ⟨_, pe_join p1 p2 hs hbase hline, fun wd F τ cs σ H P PX Q R rs h q x => ?_⟩
  refine r1 wd F τ cs σ H _ PX _ R rs h (fun wd1 d c1 v H1 l1 R1 rv h1 => ?_) x
  obtain ⟨⟨z, ez⟩, h1⟩ := h1
  subst ez
  refine ⟨⟨z, rv⟩, ?_⟩
  refine r2 wd1 F τ c1 σ H1 _ PX _ R1 (rs.mono l1) h1 (fun wd2 d2 c2 v2 H2 l2 R2 rv2 h2 => ?_) (x.mono l1)
  obtain ⟨y, a, ys, e, ey, hl, hP⟩ := h2
  simp only [List.cons.injEq, and_true] at e
  obtain ⟨e1, e2⟩ := e
  cases e1
  subst e2
  obtain ⟨b, ws, e3, s, r3⟩ := R2.getL rv2 ey
  subst e3
  have := rpL_strs r3
  subst this
  exact ⟨z, b, ys, rv, rfl, .inl (SqL.of s), hl, q wd2 (.str _) c2 _ H2 (l1.trans l2) R2 rfl hP⟩
end
end G

/-! GDef: calls without arguments; calls that leave keyword-only defaults out. -/
namespace G
open PySem PySem.Spec L2 PyProof.Rows
section
variable {X : Cx} {W : WX} {pos p : Pos} {e : Expr} {es : List Expr} {ces : Es} {sp : Spec} {x : Str} {k n : Nat}
theorem j_call0 (F : Fn X.prog X.w X.K X.mg X.base x k n sp) (hr : Room k X.A) (tk : L2N.Takes X W) (hg : Gl X x) (hdb : (x == ("__debug__" : Str)) = false := by decide) : JE X W (.Call (.Name x p) [] [] pos) (.app sp .nil) := by
  obtain ⟨f, fd, ps, en, hm, ok, kp, b⟩ := F.ex
  refine ⟨tCallSD (lift X.K X.mg sp) [] (WE W) tNil, ⟨fun pins s σ H Q I h => ?_⟩, fun wd F τ cs σ H P PX Q R rs h q x => ?_⟩
  · refine wpAny_Call_Name_kw (ld_glob I hg hm ?_ hdb)
    exact PySem.W.callWith_K0 I.kIn kp (run_fnSD (us := []) (vs := []) ok hr b .nil (L2N.passAt tk σ) I .nil h)
  · exact ⟨wd, F, cs, [], P, PX, R, rfl, h, q, fun wd' y cs' cls dd H' l R' rx z => x wd' y cs' cls dd H' l R' rx z⟩
/-- a def whose keyword-only parameters are left out: its promise over the others -/
structure FnD (P : Program) (w : World) (K : PySem.W.Frag) (mg : Str → Option Value) (base : Heap) (x : Str) (k n : Nat) (sp : Spec) : Prop where
  ex : ∃ f fd ps spF dv vs ds, mg x = some (.ref f) ∧ FnOk P w K mg base (L2N.CX P w) k f fd ps (lift K mg spF) ∧ PySem.W.keepIn K (.ref f) = true ∧ Binds K fd ps ds ∧ Vals vs ds ∧ (∀ wd, RpL K wd dv vs) ∧ ∀ us cs Q PX, sp us cs Q PX → spF (us ++ dv) cs Q PX
theorem j_callD (F : FnD X.prog X.w X.K X.mg X.base x k n sp) (hr : Room k X.A) (tk : L2N.Takes X W) (hg : Gl X x) (ha : JA X W (e :: es) ces) (hdb : (x == ("__debug__" : Str)) = false := by decide)
    (he : starEach (e :: es) X.env = (false, eval e X.env) :: starEach es X.env := by rfl) (hpl : (backTo pos (starEach es X.env)).any (·.1) = false := by rfl) : JE X W (.Call (.Name x p) (e :: es) [] pos) (.app sp ces) := by
  obtain ⟨f, fd, ps, spF, dv, vs0, ds0, hm, ok, kp, b, hv, hr0, hsp⟩ := F.ex
  obtain ⟨ta, p1, r1⟩ := ha
  refine ⟨_, pe_callSD ok hr hg hm kp b hv (fun σ => L2N.passAt tk σ) p1 hdb he hpl, fun wd F τ cs σ H P PX Q R rs h q x => ?_⟩
  refine r1 wd F τ cs σ H _ PX _ R rs h (fun wd1 ds c1 vs H1 l1 R1 rv h1 => ?_) x
  exact ⟨wd1, F, c1, ds ++ dv, P, PX, R1, rv.append (hr0 wd1), hsp _ _ _ _ h1, q.mono l1, fun wd' y cs' cls dd H' l R' rx z => x wd' y cs' cls dd H' (l1.trans l) R' rx z⟩
end
section
variable {P : Program} {w : World} {K : PySem.W.Frag} {mg : Str → Option Value} {base : Heap} {x qual : Str} {params : Arguments} {body : List Stmt} {scope : Scope} {f : Addr} {fd : FuncData} {ps : List Str} {k n : Nat} {sp spF : Spec} {kws : List (Str × V)} {ks : List Str} {ix : List Nat}
theorem fnk_mkW (FD : FunD K x qual params body scope [] kws f fd) (hm : mg x = some (.ref f)) (ok : FnOk P w K mg base (L2N.CX P w) k f fd ps (lift K mg sp))
    (hb : ∀ (kV doc pm : Value) (an : Option Addr) (cdv ct : Value) (us ws : List Value), us.length = n → ws.length = ks.length → bindArgs (PySem.W.fnOf x qual params body scope .none kV doc pm an cdv ct) ⟨us, ks.zip ws⟩ = pure (ps.zip (permL ix (us ++ ws)))) : FnK P w K mg base x k n ks ix sp := by
  refine ⟨f, fd, ps, hm, ok, FD.kp, fun s us ws h1 h2 => ?_⟩
  obtain ⟨oc, od, dV, kV, doc, pm, an, cdv, ct, osl, rfl, lk, hcd, hD, hK⟩ := FD.ex
  rcases hD with ⟨_, rfl⟩ | ⟨e, _⟩
  · exact .of_eq (hb kV doc pm an cdv ct us ws h1 h2)
  · exact absurd rfl e
/-- one keyword-only whole number -/
theorem fnd_mk1 {y : Str} {i : Int} (FD : FunD K x qual params body scope [] [(y, .int i)] f fd) (hm : mg x = some (.ref f)) (ok : FnOk P w K mg base (L2N.CX P w) k f fd ps (lift K mg spF)) (hn : n + 1 = ps.length)
    (hb : ∀ (D : Addr) (doc pm : Value) (an : Option Addr) (cdv ct : Value) (us ks : List Value), us.length = n → ks.length = 1 → KwChain D ([y].zip ks) (bindArgs (PySem.W.fnOf x qual params body scope .none (.ref D) doc pm an cdv ct) ⟨us, []⟩) (ps.zip (us ++ ks)))
    (hsp : ∀ us cs Q PX, sp us cs Q PX → spF (us ++ [.int i]) cs Q PX) : FnD P w K mg base x k n sp := by
  obtain ⟨ds, hv, b⟩ := FD.binds0 n (by simp) hn hb
  exact ⟨f, fd, ps, spF, [.int i], [.int i], ds, hm, ok, FD.kp, b, hv, fun wd => ⟨_, _, rfl, rfl, rfl⟩, hsp⟩
end
end G

/-! GDict2: dict(pairs), dict(d), sorted(d), in, dict displays, equal dicts. -/
namespace G
open PySem PySem.Spec L2
open Evl (Ex)
def pairD (p : Key × D) : D := .tup [kD p.1, p.2]
def sDOf : Spec := fun ds cs Q _ => (∃ x, ∃ l : DL, ds = [x] ∧ getL x cs = some (l.map pairD) ∧ ∀ m, cs m = none → Q (.ref m) (put cs m (dicO (mergeA [] l)))) ∨
  ∃ n l, ds = [.ref n] ∧ cs n = some (dicO l) ∧ ∀ m, cs m = none → Q (.ref m) (put cs m (dicO l))
def sDIn (b : Bool) : Spec := fun ds cs Q _ => ∃ n l k, ds = [kD k, .ref n] ∧ cs n = some (dicO l) ∧ Q (.bl ((valA l k).isSome == b)) cs
/-- keys and values in turn -/
def sDisp : Spec := fun ds cs Q _ => ∃ l : DL, ds = l.flatMap (fun p => [kD p.1, p.2]) ∧ 0 < l.length ∧ l.length ≤ 15 ∧ ∀ m, cs m = none → Q (.ref m) (put cs m (dicO (mergeA [] l)))
def flatA : D → Bool
  | .non => true
  | .bl _ => true
  | .int _ => true
  | .str _ => true
  | _ => false
/-- equal dicts of flat values -/
def sDNe : Spec := fun ds cs Q _ => ∃ n m l l', ds = [.ref n, .ref m] ∧ cs n = some (dicO l) ∧ cs m = some (dicO l') ∧ l.length = l'.length ∧ (∀ p ∈ l, valA l' p.1 = some p.2 ∧ flatA p.2 = true) ∧ Q (.bl false) cs
theorem DicR.merge {K : PySem.W.Frag} {wd : Wd} : ∀ {r : DL} {rv : List (Key × V)} {l : DL} {kvs : List (Key × V)}, DicR K wd r rv → DicR K wd l kvs → DicR K wd (mergeA l r) (mergeK kvs rv)
  | [], [], l, kvs, _, h => h
  | p :: r, q :: rv, l, kvs, hr, h => by
    obtain ⟨a, b, c⟩ := hr.cons_inv
    show DicR K wd (mergeA (putA l p.1 p.2) r) (mergeK (putK kvs q.1 q.2) rv)
    rw [← a]
    exact DicR.merge c (h.put b)
  | [], _ :: _, _, _, hr, _ => by have := hr.ks; simp at this
  | _ :: _, [], _, _, hr, _ => by have := hr.ks; simp at this
theorem pairs_inv {K : PySem.W.Frag} {wd : Wd} {H : Hp} (hB : Ex wd.B H) : ∀ {l : DL} {vs : List V}, RpL K wd (l.map pairD) vs → ∃ (ps : List Addr) (kvs : List (Key × V)), vs = ps.map V.ref ∧ Paired (fun p kv => SqT K H p [kV kv.1, kv.2]) ps kvs ∧ DicR K wd l kvs
  | [], vs, h => ⟨[], [], h, .nil, DicR.nil⟩
  | p :: l, vs, h => by
    obtain ⟨v, ws, e, ⟨a, xs, ea, hs, hx⟩, hr⟩ := h
    obtain ⟨ps, kvs, e2, h2, h3⟩ := pairs_inv hB hr
    obtain ⟨v1, v2, ex, r1, r2⟩ := hx.two
    subst e ea ex e2
    refine ⟨a :: ps, (p.1, v2) :: kvs, rfl, .cons ?_ h2, DicR.cons rfl r2 h3⟩
    rw [← Rp.key r1]
    exact SqT.of (hB _ _ hs)
theorem refn_dOf {K : PySem.W.Frag} : RefN K (fun xs H Q => (∃ (a : Addr) (ps : List Addr) (kvs : List (Key × V)), xs = [.ref a] ∧ SqL K H a (ps.map V.ref) ∧ Paired (fun p kv => SqT K H p [kV kv.1, kv.2]) ps kvs ∧ ∀ p, H p = none → Q (.ref p) (upd H p (.dK (mergeK [] kvs)))) ∨
    (∃ (a : Addr) (kvs : List (Key × V)), xs = [.ref a] ∧ Rd H a (.dK kvs) ∧ ∀ p, H p = none → Q (.ref p) (upd H p (.dK kvs)))) sDOf := by
  intro wd F cs H ds vs P PX Q R r hs q
  rcases hs with ⟨x, l, rfl, ex, hP⟩ | ⟨n, l, rfl, hc, hP⟩
  · obtain ⟨v, ev, rv⟩ := r.one
    obtain ⟨a, ws, e2, s, r2⟩ := R.getL rv ex
    obtain ⟨ps, kvs, e3, h3, h4⟩ := pairs_inv R.b r2
    subst e3
    refine .inl ⟨a, ps, kvs, by rw [ev, e2], SqL.of s, h3, fun p hp => ?_⟩
    obtain ⟨m, wd', hm, le, R', rr⟩ := R.cellD hp (DicR.merge h4 DicR.nil)
    exact q wd' _ _ _ _ le R' rr (hP m hm)
  · obtain ⟨v, ev, rv⟩ := r.one
    obtain ⟨a, kvs, ea, hH, hr, _⟩ := R.dicAt rv hc
    refine .inr ⟨a, kvs, by rw [ev, ea], .inl hH, fun p hp => ?_⟩
    obtain ⟨m, wd', hm, le, R', rr⟩ := R.cellD hp hr
    exact q wd' _ _ _ _ le R' rr (hP m hm)
theorem CallR.or {X : Cx} {f : Value} {r r' : List V → Hp → VK → Prop} (h : CallR X f r) (h' : CallR X f r') : CallR X f (fun xs H Q => r xs H Q ∨ r' xs H Q) := by
  intro pins s σ H xs us Q I rx q
  rcases q with q | q
  · exact h pins s σ H xs us Q I rx q
  · exact h' pins s σ H xs us Q I rx q
theorem refn_sortD {K : PySem.W.Frag} : RefN K (fun xs H Q => ∃ (a : Addr) (kvs : List (Key × V)) (ks : List Int), xs = [.ref a] ∧ Rd H a (.dK kvs) ∧ kvs.map (·.1) = ks.map Sum.inl ∧ ks.length < 64 ∧
    ∀ (ys : List Int) (p : Addr), ys.Perm ks → ys.Pairwise (· ≤ ·) → H p = none → Q (.ref p) (upd H p (.lst (ys.map V.int)))) sSortD := by
  intro wd F cs H ds vs P PX Q R r hs q
  obtain ⟨n, l, ks, rfl, hc, hk, hl, hP⟩ := hs
  obtain ⟨v, ev, rv⟩ := r.one
  obtain ⟨a, kvs, ea, hH, hr, _⟩ := R.dicAt rv hc
  refine ⟨a, kvs, ks, by rw [ev, ea], .inl hH, by rw [← hr.ks]; exact hk, hl, fun ys p h1 h2 hp => ?_⟩
  obtain ⟨wd2, l2, R2, r2⟩ := R.lst hp (rpL_of_ints (K := K) (wd := wd) ys)
  exact q wd2 _ cs _ _ l2 R2 r2 (hP ys h1 h2)
section
variable {X : Cx} {W : WX} {pos apos p : Pos} {o a e : Expr} {co ca ce : E}
theorem boot_dictG : bootBuiltins "dict" = some (.type "dict") := by decide +kernel
theorem boot_sortedG' : bootBuiltins "sorted" = some (.builtin "sorted") := by decide +kernel
theorem j_dOf (hc : X.calm = true) (hg : Gl X "dict") (hm : X.mg "dict" = none) (ha : JE X W a ca) (h1 : starEach [a] X.env = (false, eval a X.env) :: starEach [] X.env := by rfl) : JE X W (.Call (.Name "dict" p) [a] [] pos) (.app sDOf (.cons ca .nil)) :=
  j_bltnTy (CallR.or (call_dictP hc) call_dictD) refn_dOf hg hm boot_dictG (ja_cons ha ja_nil h1) (he := h1) (hpl := rfl)
theorem j_sortD (hc : X.calm = true) (hg : Gl X "sorted") (hm : X.mg "sorted" = none) (ha : JE X W a ca) (h1 : starEach [a] X.env = (false, eval a X.env) :: starEach [] X.env := by rfl) : JE X W (.Call (.Name "sorted" p) [a] [] pos) (.app sSortD (.cons ca .nil)) :=
  j_bltn (call_sortedDI hc) refn_sortD hg hm boot_sortedG' (ja_cons ha ja_nil h1) (he := h1) (hpl := rfl)
theorem flatA_V {K : PySem.W.Frag} {wd : Wd} : ∀ {d : D} {v : V}, flatA d = true → Rp K wd d v → flatB v = true ∧ ∀ {wd'} {v'}, Rp K wd' d v' → v' = v
  | .non, v, _, r => by cases (show v = .non from r); exact ⟨rfl, fun h => h⟩
  | .bl b, v, _, r => by cases (show v = .bl b from r); exact ⟨rfl, fun h => h⟩
  | .int b, v, _, r => by cases (show v = .int b from r); exact ⟨rfl, fun h => h⟩
  | .str b, v, _, r => by cases (show v = .str b from r); exact ⟨rfl, fun h => h⟩
  | .tup _, _, h, _ => by cases h
  | .lst _, _, h, _ => by cases h
  | .dic _ _, _, h, _ => by cases h
  | .ref _, _, h, _ => by cases h
  | .scr, _, h, _ => by cases h
  | .clo _ _ _, _, h, _ => by cases h
theorem DicR.mem {K : PySem.W.Frag} {wd : Wd} : ∀ {l : DL} {kvs : List (Key × V)}, DicR K wd l kvs → ∀ q ∈ kvs, ∃ p ∈ l, p.1 = q.1 ∧ Rp K wd p.2 q.2
  | [], [], _, q, h => by cases h
  | p :: l, r :: kvs, d, q, h => by
    obtain ⟨a, b, c⟩ := d.cons_inv
    rcases List.mem_cons.mp h with e | h
    · subst e
      exact ⟨p, List.mem_cons_self, a, b⟩
    · obtain ⟨p', h1, h2⟩ := DicR.mem c q h
      exact ⟨p', List.mem_cons_of_mem _ h1, h2⟩
  | [], _ :: _, d, _, _ => by have := d.ks; simp at this
  | _ :: _, [], d, _, _ => by have := d.ks; simp at this
theorem ref_dNe {K : PySem.W.Frag} : Ref2 K rNeDA sDNe := by
  intro wd F cs H x y v w P PX Q R rx ry hs q
  obtain ⟨n, m, l, l', e, hn, hm, hl, hp, hP⟩ := hs
  simp only [List.cons.injEq, and_true] at e
  obtain ⟨e1, e2⟩ := e
  subst e1 e2
  obtain ⟨a, ks, ea, ha, ra, _⟩ := R.dicAt rx hn
  obtain ⟨b, ls, eb, hb, rb, _⟩ := R.dicAt ry hm
  refine ⟨a, b, ks, ls, ea, eb, ha, hb, by rw [← ra.len, ← rb.len]; exact hl, fun kv hkv => ?_, q wd (.bl _) cs _ H (Wd.le.refl _) R rfl hP⟩
  obtain ⟨p, hp1, e1, r1⟩ := ra.mem kv hkv
  obtain ⟨h1, h2⟩ := hp p hp1
  obtain ⟨v', hv', r'⟩ := rb.some h1
  obtain ⟨f1, f2⟩ := flatA_V h2 r1
  refine ⟨?_, f1⟩
  rw [← e1, hv', f2 r']
theorem j_dne {b : Expr} {cb : E} (hu : X.A.units + 64 < cLine) (ha : JE X W a ca) (hb : JE X W b cb) : JE X W (.Compare a [.NotEq] [b] pos) (.app sDNe (.cons ca (.cons cb .nil))) := j_cmp (op_ne_dictA (by omega)) ref_dNe ha hb (nomark _)
theorem jt_dne {b : Expr} {cb : E} (hu : X.A.units + 64 < cLine) (ha : JE X W a ca) (hb : JE X W b cb) : JT X W (.Compare a [.NotEq] [b] pos) (.app sDNe (.cons ca (.cons cb .nil))) := jt_cmp (op_ne_dictA (by omega)) ref_dNe ha hb (nomark _)
def toV : D → V
  | .bl b => .bl b
  | .int i => .int i
  | .str x => .str x
  | _ => .non
theorem toV_rp {K : PySem.W.Frag} {wd : Wd} : ∀ {d : D}, flatA d = true → Rp K wd d (toV d)
  | .non, _ => rfl
  | .bl b, _ => rfl
  | .int b, _ => rfl
  | .str b, _ => rfl
  | .tup _, h => by cases h
  | .lst _, h => by cases h
  | .dic _ _, h => by cases h
  | .ref _, h => by cases h
  | .scr, h => by cases h
  | .clo _ _ _, h => by cases h
def sDispC (l : DL) : Spec := fun ds cs Q _ => ds = [] ∧ ∀ m, cs m = none → Q (.ref m) (put cs m (dicO (mergeA [] l)))
def trsC (l : DL) : List (TE × TE) := l.map fun p => (tC (kV p.1), tC (toV p.2))
theorem tPairsC {σ : L2.St} {H : Hp} : ∀ {l : DL} {Q : List (V × V) → Hp → Prop}, Q (l.map fun p => (kV p.1, toV p.2)) H → tPairs (trsC l) σ H Q
  | [], Q, h => h
  | p :: l, Q, h => by
    show tPairs (trsC l) σ H fun ps H3 => Q ((kV p.1, toV p.2) :: ps) H3
    exact tPairsC h
theorem dicR_C {K : PySem.W.Frag} {wd : Wd} : ∀ {l : DL}, (l.all fun p => flatA p.2) = true → DicR K wd l (l.map fun p => (p.1, toV p.2))
  | [], _ => DicR.nil
  | p :: l, h => by
    rw [List.all_cons, Bool.and_eq_true] at h
    exact DicR.cons rfl (toV_rp h.1) (dicR_C h.2)
theorem j_dispC {keys : List (Option Expr)} {values : List Expr} (l : DL) (h : PPs X pos keys values (trsC l)) (hf : (l.all fun p => flatA p.2) = true) (h1 : keys.all (·.isSome) = true) (h2 : keys.length = values.length) (h3 : keys ≠ []) (h4 : keys.length ≤ 15) (h5 : l.length ≤ 15) : JE X W (.Dict keys values pos) (.app (sDispC l) .nil) := by
  refine ⟨_, pe_disp h h1 h2 h3 h4, fun wd F τ cs σ H P PX Q R rs h q x => ?_⟩
  intro a ha
  refine tPairsC ⟨upd_same, l.map fun p => (p.1, toV p.2), by rw [List.map_map]; rfl, by rw [List.length_map]; exact h5, ?_⟩
  have e : upd (upd H a (.dK [])) a (.dK (mergeK [] (l.map fun p => (p.1, toV p.2)))) = upd H a (.dK (mergeK [] (l.map fun p => (p.1, toV p.2)))) := by
    funext b
    unfold upd
    split <;> rfl
  rw [e]
  obtain ⟨n, wd', hn, le, R', r⟩ := R.cellD ha (DicR.merge (dicR_C hf) DicR.nil)
  exact q wd' _ _ _ _ le R' r (h.2 n hn)
theorem cp_nil : PPs X pos [] [] (trsC []) := pps_nil
theorem cp_ii {i j : Int} {a b : Nat} {p1 p2 : Pos} {ks : List (Option Expr)} {vs : List Expr} {l : DL} (h : PPs X pos ks vs (trsC l)) : PPs X pos (some (.Constant (.int i) a p1) :: ks) (.Constant (.int j) b p2 :: vs) (trsC ((.inl i, .int j) :: l)) := pps_cons pe_int pe_int h
theorem cp_si {i : Str} {j : Int} {a b : Nat} {p1 p2 : Pos} {ks : List (Option Expr)} {vs : List Expr} {l : DL} (h : PPs X pos ks vs (trsC l)) : PPs X pos (some (.Constant (.str i) a p1) :: ks) (.Constant (.int j) b p2 :: vs) (trsC ((.inr i, .int j) :: l)) := pps_cons pe_str pe_int h
end
section
variable {P : Program} {w : World} {K : PySem.W.Frag} {mg : Str → Option Value} {base : Heap} {x qual : Str} {params : Arguments} {body : List Stmt} {scope : Scope} {f : Addr} {fd : FuncData} {ps : List Str} {k n : Nat} {sp spF : Spec}
/-- one keyword-only parameter with None -/
theorem fnd_mkN {y : Str} (FD : FunD K x qual params body scope [] [(y, .non)] f fd) (hm : mg x = some (.ref f)) (ok : FnOk P w K mg base (L2N.CX P w) k f fd ps (lift K mg spF)) (hn : n + 1 = ps.length)
    (hb : ∀ (D : Addr) (doc pm : Value) (an : Option Addr) (cdv ct : Value) (us ks : List Value), us.length = n → ks.length = 1 → KwChain D ([y].zip ks) (bindArgs (PySem.W.fnOf x qual params body scope .none (.ref D) doc pm an cdv ct) ⟨us, []⟩) (ps.zip (us ++ ks)))
    (hsp : ∀ us cs Q PX, sp us cs Q PX → spF (us ++ [.non]) cs Q PX) : FnD P w K mg base x k n sp := by
  obtain ⟨ds, hv, b⟩ := FD.binds0 n (by simp) hn hb
  exact ⟨f, fd, ps, spF, [.non], [.non], ds, hm, ok, FD.kp, b, hv, fun wd => ⟨_, _, rfl, rfl, rfl⟩, hsp⟩
end
end G

/-! GDComp: dict comprehensions. -/
namespace G
open PySem PySem.Spec L2
open Evl (Ex)
section
variable {X : Cx} {W : WX} {pos : Pos} {cc ck cv : E}
theorem j_dcomp {kx vx tg iter : Expr} {ifs : List Expr} {scope : Scope} {own : List (Str × Nat)} {isp : ISpec} {as : Es} {pt : Pat} (hc : X.calm = true) (hN : X.N.Nodup) (hi : JI X W tg iter isp as) (ok : BlkOk X.N X.env.scope scope own)
    (hg : ∀ (s : Shared) (H : Hp) (C : Addr) (cl : List (Str × Addr)) (fp : List Addr), JG (X.blk s H scope (compEnvC scope cl C X.env) fp) tg pt (own.map (·.2)))
    (ht : ∀ (s : Shared) (H : Hp) (C : Addr) (cl : List (Str × Addr)) (fp : List Addr), JTs (X.blk s H scope (compEnvC scope cl C X.env) fp) W0 ifs cc)
    (hk : ∀ (s : Shared) (H : Hp) (C : Addr) (cl : List (Str × Addr)) (fp : List Addr), JE (X.blk s H scope (compEnvC scope cl C X.env) fp) W0 kx ck)
    (he : ∀ (s : Shared) (H : Hp) (C : Addr) (cl : List (Str × Addr)) (fp : List Addr), JE (X.blk s H scope (compEnvC scope cl C X.env) fp) W0 vx cv) (hs : ∀ x, foldedSetIterable iter X.env x = pure x := by intro _; rfl) :
    JE X W (.DictComp kx vx [⟨tg, iter, ifs, 0⟩] scope pos) (.dcomp (own.map (·.2)) pt isp as cc ck cv) := by
  obtain ⟨wi, p0, r0⟩ := hi
  let uG : TG := fun v σ H Q => ∀ (s : Shared) (H0 : Hp) (C : Addr) (cl : List (Str × Addr)) (fp : List Addr) (g : TG), PG (X.blk s H0 scope (compEnvC scope cl C X.env) fp) tg g → RefG (X.blk s H0 scope (compEnvC scope cl C X.env) fp) g pt (own.map (·.2)) → g v σ H Q
  let uT : TT := fun σ H Q => ∀ (s : Shared) (H0 : Hp) (C : Addr) (cl : List (Str × Addr)) (fp : List Addr) (t : TT), PTs (X.blk s H0 scope (compEnvC scope cl C X.env) fp) ifs t → RefT (X.blk s H0 scope (compEnvC scope cl C X.env) fp) W0 t cc → t σ H Q
  let uK : TE := fun σ H Q => ∀ (s : Shared) (H0 : Hp) (C : Addr) (cl : List (Str × Addr)) (fp : List Addr) (t : TE), PE (X.blk s H0 scope (compEnvC scope cl C X.env) fp) kx t → RefE (X.blk s H0 scope (compEnvC scope cl C X.env) fp) W0 t ck → t σ H Q
  let uE : TE := fun σ H Q => ∀ (s : Shared) (H0 : Hp) (C : Addr) (cl : List (Str × Addr)) (fp : List Addr) (t : TE), PE (X.blk s H0 scope (compEnvC scope cl C X.env) fp) vx t → RefE (X.blk s H0 scope (compEnvC scope cl C X.env) fp) W0 t cv → t σ H Q
  have pG : ∀ (s : Shared) (H : Hp) (C : Addr) (cl : List (Str × Addr)) (fp : List Addr), PG (X.blk s H scope (compEnvC scope cl C X.env) fp) tg uG := fun s H0 C cl fp => by
    obtain ⟨g, p1, r1⟩ := hg s H0 C cl fp
    exact ⟨fun pins s' σ H v u Q I rv h => p1.run pins s' σ H v u Q I rv (h s H0 C cl fp g p1 r1)⟩
  have pT : ∀ (s : Shared) (H : Hp) (C : Addr) (cl : List (Str × Addr)) (fp : List Addr), PTs (X.blk s H scope (compEnvC scope cl C X.env) fp) ifs uT := fun s H0 C cl fp => by
    obtain ⟨g, p1, r1⟩ := ht s H0 C cl fp
    exact ⟨fun pins s' σ H Q I h => p1.run pins s' σ H Q I (h s H0 C cl fp g p1 r1)⟩
  have pK : ∀ (s : Shared) (H : Hp) (C : Addr) (cl : List (Str × Addr)) (fp : List Addr), PE (X.blk s H scope (compEnvC scope cl C X.env) fp) kx uK := fun s H0 C cl fp => by
    obtain ⟨g, p1, r1⟩ := hk s H0 C cl fp
    exact ⟨fun pins s' σ H Q I h => p1.run pins s' σ H Q I (h s H0 C cl fp g p1 r1)⟩
  have pE : ∀ (s : Shared) (H : Hp) (C : Addr) (cl : List (Str × Addr)) (fp : List Addr), PE (X.blk s H scope (compEnvC scope cl C X.env) fp) vx uE := fun s H0 C cl fp => by
    obtain ⟨g, p1, r1⟩ := he s H0 C cl fp
    exact ⟨fun pins s' σ H Q I h => p1.run pins s' σ H Q I (h s H0 C cl fp g p1 r1)⟩
  refine ⟨_, pe_dc hc hN p0 ok pG pT pK pE hs, fun wd F τ cs σ H P PX Q R rs h q x => ?_⟩
  have h : wpEs as τ cs (fun ds c1 => isp ds c1 fun items grd => ∀ n, c1 n = none →
      compD n pt grd (G.wipe τ (own.map (·.2))) (fun σ1 c2 K => wpE cc σ1 c2 K (fun _ _ => False)) (fun σ1 c2 K => wpE ck σ1 c2 K (fun _ _ => False)) (fun σ1 c2 K => wpE cv σ1 c2 K (fun _ _ => False))
        (fun c3 => P (.ref n) c3) items (G.put c1 n (dicO []))) PX := h
  refine r0 wd F τ cs σ H (fun items grd c1 => ∀ n, c1 n = none → compD n pt grd (G.wipe τ (own.map (·.2))) (fun σ1 c2 K => wpE cc σ1 c2 K (fun _ _ => False)) (fun σ1 c2 K => wpE ck σ1 c2 K (fun _ _ => False)) (fun σ1 c2 K => wpE cv σ1 c2 K (fun _ _ => False))
        (fun c3 => P (.ref n) c3) items (G.put c1 n (dicO []))) PX _ R rs h (fun wd1 items grd c1 J H1 l1 R1 it h1 => ?_) x
  intro Dd hD
  obtain ⟨n, wd0, hn, l0, R0, rD⟩ := R1.cellD hD (l := []) (kvs := []) DicR.nil
  refine ⟨fun i mm H' => ∃ wd' cs', wd0.le wd' ∧ Rl X.K wd' F cs' H' ∧ mm = items.length - i ∧ i ≤ items.length ∧
    compD n pt grd (G.wipe τ (own.map (·.2))) (fun σ1 c2 K => wpE cc σ1 c2 K (fun _ _ => False)) (fun σ1 c2 K => wpE ck σ1 c2 K (fun _ _ => False)) (fun σ1 c2 K => wpE cv σ1 c2 K (fun _ _ => False))
        (fun c3 => P (.ref n) c3) (items.drop i) cs', ⟨items.length, wd0, _, Wd.le.refl _, R0, by simp, Nat.zero_le _, h1 n hn⟩, ?_⟩
  rintro i mm H' ⟨wd', cs', l', R', em, hle, h'⟩
  by_cases hi : i < items.length
  · have ed : items.drop i = items[i] :: items.drop (i + 1) := List.drop_eq_getElem_cons hi
    rw [ed] at h'
    obtain ⟨hgd, h'⟩ := h'
    obtain ⟨g0, gy⟩ := it.go wd' _ cs' H' i items[i] (l0.trans l') R' hgd (List.getElem?_eq_getElem hi)
    cases eb : bindP pt [items[i]] (G.wipe τ (own.map (·.2))) with
    | none => rw [eb] at h'; exact h'.elim
    | some τ1 =>
      rw [eb] at h'
      refine .inr ⟨g0, fun H2 => ∃ wd' cs', wd0.le wd' ∧ Rl X.K wd' F cs' H2 ∧
        compD n pt grd (G.wipe τ (own.map (·.2))) (fun σ1 c2 K => wpE cc σ1 c2 K (fun _ _ => False)) (fun σ1 c2 K => wpE ck σ1 c2 K (fun _ _ => False)) (fun σ1 c2 K => wpE cv σ1 c2 K (fun _ _ => False))
          (fun c3 => P (.ref n) c3) (items.drop (i + 1)) cs', fun H2 ⟨wd2, c2, l2, R2, h2⟩ => ⟨items.length - (i + 1), by omega, wd2, c2, l2, R2, rfl, hi, h2⟩, fun xv H2 y => ?_⟩
      obtain ⟨wd2, l2, R2, rv⟩ := gy xv H2 y
      have rsw : RS X.K wd2 (G.wipe τ (own.map (·.2))) (L2.wipe σ (own.map (·.2))) := ((rs.mono (l1.trans (l0.trans (l'.trans l2)))).wipe _)
      intro s0 H0 C cl fp g p1 r1
      refine r1 wd2 _ _ cs' _ H2 items[i] xv τ1 _ R2 rsw rv eb fun σ3 rs3 w3 => ?_
      refine ⟨by rw [w3, wipe_idem], ?_⟩
      intro s0 H0 C cl fp t p2 r2
      have xz : ∀ {wd F σ}, XOk X W0 wd F σ (fun _ _ => False) := fun {wd F σ} _ _ _ _ _ _ _ _ _ z => z
      refine r2 wd2 _ τ1 cs' σ3 H2 _ (fun _ _ => False) _ R2 rs3 h' (fun wd3 d3 c3 H3 l3 R3 h3 => ?_) xz
      rcases h3 with ⟨e3, h3⟩ | ⟨e3, h3⟩
      · refine ⟨true, e3, ?_⟩
        rw [if_pos rfl]
        intro s0 H0 C cl fp t p4 r4
        refine r4 wd3 _ τ1 c3 σ3 H3 _ (fun _ _ => False) _ R3 (rs3.mono l3) h3 (fun wd4 d4 c4 v4 H4 l4 R4 rv4 h4 => ?_) xz
        intro s0 H0 C cl fp t p5 r5
        refine r5 wd4 _ τ1 c4 σ3 H4 _ (fun _ _ => False) _ R4 (rs3.mono (l3.trans l4)) h4 (fun wd5 d5 c5 v5 H5 l5 R5 rv5 h5 => ?_) xz
        obtain ⟨l, k, ek, hcn, hl, h5⟩ := h5
        subst ek
        have lt := l'.trans (l2.trans (l3.trans (l4.trans l5)))
        obtain ⟨a, kvs, ea, hH, hr, wr⟩ := R5.dicAt (Rp.mono lt _ _ rD) hcn
        cases ea
        refine ⟨kvs, k, Rp.key (Rp.mono l5 _ _ rv4), hH, by rw [← hr.len, sizeL]; exact hl, wd5, _, lt, wr _ _ (hr.put rv5), h5⟩
      · refine ⟨false, e3, ?_⟩
        rw [if_neg Bool.false_ne_true]
        exact ⟨wd3, c3, l'.trans (l2.trans l3), R3, h3⟩
  · have ei : i = items.length := by omega
    subst ei
    rw [List.drop_length] at h'
    exact .inl ⟨it.stop wd' _ cs' H' (l0.trans l') R' h'.1, q wd' _ _ _ _ (l1.trans (l0.trans l')) R' (Rp.mono l' _ _ rD) h'.2⟩
end
end G

/-! GMaxV: max(d.values(), default=i). -/
namespace L2
open PySem PySem.Spec PyProof.Rows
section
variable {X : Cx} {o : Expr} {p pos apos mpos cpos kpos : Pos} {td : TE} {i : Int} {jk : Nat}
def tMaxVals (td : TE) (i : Int) : TE := fun σ H Q => td σ H fun x H1 => ∃ a kvs is, x = V.ref a ∧ H1 a = some (.dK kvs) ∧ kvs.map (·.2) = is.map V.int ∧ (is = [] → Q (.int i) H1) ∧ ∀ m, m ∈ is → (∀ j ∈ is, j ≤ m) → Q (.int m) H1
theorem pe_maxVals (hc : X.calm = true) (hg : Gl X "max") (hm : X.mg "max" = none) (hd : PE X o td) (hbase : attributeBase o "values" X.env (eval o X.env) = eval o X.env := by rfl) (hline : (apos.endLine == mpos.line) = true := by rfl)
    (hse : backTo pos (starEach [Expr.Call (.Attribute o "values" apos) [] [] mpos] X.env) = (false, eval (Expr.Call (.Attribute o "values" apos) [] [] mpos) X.env) :: backTo pos (starEach [] X.env) := by rfl)
    (hpl : (backTo pos (starEach [Expr.Call (.Attribute o "values" apos) [] [] mpos] X.env)).any (·.1) = false := by rfl)
    (hall : (backToKw pos (keywordEach [⟨some "default", .Constant (.int i) jk cpos, kpos⟩] X.env)).all (·.1.isSome) = true := by rfl) (hnone : (backToKw pos (keywordEach [⟨some "default", .Constant (.int i) jk cpos, kpos⟩] X.env)).any (·.1.isNone) = false := by rfl)
    (hks : (backToKw pos (keywordEach [⟨some "default", .Constant (.int i) jk cpos, kpos⟩] X.env)).filterMap (·.1) = [Str.ofString "default"] := by rfl) :
    PE X (.Call (.Name "max" p) [.Call (.Attribute o "values" apos) [] [] mpos] [⟨some "default", .Constant (.int i) jk cpos, kpos⟩] pos) (tMaxVals td i) := by
  refine ⟨fun pins s σ H Q I h => ?_⟩
  refine wpAny_Call_Name_kw (ld_blt I hg hm (u := .builtin "max") (by first | rfl | decide +kernel) ?_ (by first | decide +kernel | decide) (by first | decide +kernel | decide))
  refine PyProof.Rows.callWith_kw ?_ hse hpl hall hnone
  rw [hse, hks]
  refine Calls.spliced_cons (wpAny_Call_method0_late hbase hline (thn (hd.run pins s σ H _ I h) fun v s1 ⟨x, H1, I1, r1, a, kvs, is, ex, ha, hv, q0, q⟩ => ?_))
  subst ex
  obtain rfl : v = Value.ref a := r1
  obtain ⟨_, hsys, vs, rel, dof⟩ := dk_of I1.hok ha
  obtain ⟨ep, dat⟩ := dof.dictAt
  have dat' := dat
  obtain ⟨ob, es, ho, ex, hdat, hko, hpr, hnd⟩ := dat'
  refine ⟨"dict", "dict.values", F.plainAttrs_dict, F.slot_dict_values, F.type_dict_values, ⟨ob, ho, ex.1⟩, fun b e => ?_, Calls.callWith_builtin rfl (PySem.evalArgs_none ?_)⟩
  · cases e
    exact ⟨ob, ho, ex.2.1⟩
  refine call_meetsIn F.slot_dict_values ⟨ob, ho, ex.1⟩ F.entry_dict_values (F.args_dict_values_1 _) (meets_dict_values (mixKind X.prog X.w) a hsys) ⟨⟨vs, dof⟩, ?_⟩
  refine Calls.spliced_nil ?_
  have k1 : ∀ b u, s1.heap.get? b = some u → (s1.heap.push { cls := .type "dict_values", data := .fields #[.ref a] }).get? b = some u := fun b u e => Heap.get?_push_of_some _ e
  have dat1 : (s1.heap.push { cls := .type "dict_values", data := .fields #[.ref a] }).DictAt (mixKind X.prog X.w) a vs ep := dat.keep k1
  have hlv : vs.length = is.length := by
    have e1 := congrArg List.length hv
    rw [List.length_map, List.length_map] at e1
    rw [← e1]
    exact (KV.length rel).symm
  have hval : ∀ (i : Nat) (v : Value), (∃ k, vs[i]? = some (k, v)) → ∃ t, v = Value.int (is.getD i 0) t := fun i v ⟨k, hk⟩ => by
    obtain ⟨x, h1, h2⟩ := KV.at' rel hk
    have e1 : (kvs.map (·.2))[i]? = some x := by rw [List.getElem?_map, h1] <;> rfl
    rw [hv, List.getElem?_map] at e1
    obtain ⟨j, hj, e2⟩ := Option.map_eq_some_iff.mp e1
    subst e2
    obtain ⟨t, e3⟩ := h2
    refine ⟨t, ?_⟩
    rw [e3, List.getD_eq_getElem?_getD, hj] <;> rfl
  have hlt : a < s1.heap.objs.size := Heap.lt_size ho
  have hsz : (s1.heap.push { cls := .type "dict_values", data := .fields #[.ref a] }).objs.size = s1.heap.objs.size + 1 := Heap.size_push _ _
  show wpAny _ _ (evalAll [do let v ← eval (.Constant (.int i) jk cpos) X.env; standAt pos; pure v]) _ _ _
  refine evalAll_cons (wpAny_bind (wpAny_Constant_int (wpAny_bind (wpAny_standAt (wpAny_pure (evalAll_nil ?_))))))
  show wpAny _ _ (call (.builtin "max") [.ref s1.heap.objs.size] [(Str.ofString "default", _)]) _ _ _
  refine call_max_walkD (wpAny_pyIter_values (v := s1.heap.objs.size) (d := a) ⟨_, Heap.get?_push_size _ rfl, rfl, rfl⟩ dat1 ?_)
  refine ⟨_, _, _, _, _, _, _, s1.heap, _, rfl, (Walks.dictValues (knd := mixKind X.prog X.w) (A := X.A.in1) (I.ok.hd hc) (s1.heap.push { cls := .type "dict_values", data := .fields #[.ref a] }).objs.size a (by rw [hsz]; exact Nat.ne_of_lt (Nat.lt_succ_of_lt hlt)) vs ep).toS,
    ⟨⟨_, Heap.get?_push_size _ rfl, rfl, rfl⟩, dat1.keep fun b u e => Heap.get?_push_of_some _ e⟩, fun b hb => ?_, fun b u e hb => ?_, fun b u e => Heap.get?_push_of_some _ (k1 b u e), fun h0 s' hm => ?_, fun hn => ⟨fun i j vi vj s' Q' E' _ h1 h2 h3 => CmpOf.ints_gt (fun i => is.getD i 0) hval i j vi vj s' Q' E' h1 h2 h3, fun v s' hP hm => ?_⟩⟩
  · show b < ((s1.heap.push _).push _).objs.size
    rw [Heap.size_push, Heap.size_push]
    rw [hsz] at hb
    rcases List.mem_cons.mp hb with e | hb
    · rw [e]
      exact Nat.lt_succ_self _
    · have e : b = a := List.mem_singleton.mp hb
      rw [e]
      exact Nat.lt_succ_of_lt (Nat.lt_succ_of_lt hlt)
  · have e1 : b = _ := List.mem_singleton.mp hb
    have e2 := Heap.lt_size e
    rw [hsz] at e1
    rw [e1] at e2
    exact absurd e2 (Nat.not_lt.mpr (Nat.le_succ _))
  · obtain ⟨h', tk, e, hk⟩ := PySem.W.moved_old (s := { s1 with heap := s1.heap.push { cls := .type "dict_values", data := .fields #[.ref a] }, toks := s1.toks + 1 }) rfl rfl hm
    subst e
    have i0 : is = [] := by
      have : is.length = 0 := by rw [← hlv]; exact h0
      exact List.length_eq_zero_iff.mp this
    exact ⟨.int i, H1, I1.kept (t' := tk) fun b u e => hk b u (k1 b u e), ⟨_, rfl⟩, q0 i0⟩
  · obtain ⟨h', tk, e, hk⟩ := PySem.W.moved_old (s := { s1 with heap := s1.heap.push { cls := .type "dict_values", data := .fields #[.ref a] }, toks := s1.toks + 1 }) rfl rfl hm
    subst e
    obtain ⟨t, rfl⟩ := hval _ v hP
    obtain ⟨b1, b2⟩ := argBest_gt (fun i => is.getD i 0) (vs.length - 1)
    refine ⟨.int _, H1, I1.kept (t' := tk) fun b u e => hk b u (k1 b u e), ⟨t, rfl⟩, q _ ?_ fun j hj => ?_⟩
    · have hb : argBest (fun i j => decide (is.getD i 0 > is.getD j 0)) (vs.length - 1) < is.length := by omega
      rw [List.getD_eq_getElem?_getD, List.getElem?_eq_getElem hb]
      exact List.getElem_mem hb
    · obtain ⟨i, hi, e⟩ := List.mem_iff_getElem.mp hj
      have e2 : is.getD i 0 = j := by rw [List.getD_eq_getElem?_getD, List.getElem?_eq_getElem hi, ← e] <;> rfl
      rw [← e2]
      exact b2 i (by omega)
end
end L2
namespace G
open PySem PySem.Spec L2
open Evl (Ex)
/-- max of a dict's values, or i -/
def sMaxVals (i : Int) : Spec := fun ds cs Q _ => ∃ n l, ∃ is : List Int, ds = [.ref n] ∧ cs n = some (dicO l) ∧ l.map (·.2) = is.map D.int ∧ (is = [] → Q (.int i) cs) ∧ ∀ m, m ∈ is → (∀ j ∈ is, j ≤ m) → Q (.int m) cs
theorem rpL_int {K : PySem.W.Frag} {wd : Wd} : ∀ {is : List Int} {vs : List V}, RpL K wd (is.map D.int) vs → vs = is.map V.int
  | [], vs, h => h
  | i :: is, vs, h => by
    obtain ⟨v, ws, e, a, b⟩ := h
    rw [e, rpL_int b, show v = .int i from a]
    rfl
/-- is True -/
def sNotT : Spec := fun ds cs Q _ => ∃ b, ds = [.bl b, .bl true] ∧ Q (.bl (!b)) cs
section
variable {X : Cx} {W : WX} {o a b : Expr} {p pos apos mpos cpos kpos : Pos} {co ca cb : E} {i : Int} {jk : Nat}
theorem j_maxVals (hc : X.calm = true) (hg : Gl X "max") (hm : X.mg "max" = none) (ho : JE X W o co) (hbase : attributeBase o "values" X.env (eval o X.env) = eval o X.env := by rfl) (hline : (apos.endLine == mpos.line) = true := by rfl)
    (hse : backTo pos (starEach [Expr.Call (.Attribute o "values" apos) [] [] mpos] X.env) = (false, eval (Expr.Call (.Attribute o "values" apos) [] [] mpos) X.env) :: backTo pos (starEach [] X.env) := by rfl)
    (hpl : (backTo pos (starEach [Expr.Call (.Attribute o "values" apos) [] [] mpos] X.env)).any (·.1) = false := by rfl)
    (hall : (backToKw pos (keywordEach [⟨some "default", .Constant (.int i) jk cpos, kpos⟩] X.env)).all (·.1.isSome) = true := by rfl) (hnone : (backToKw pos (keywordEach [⟨some "default", .Constant (.int i) jk cpos, kpos⟩] X.env)).any (·.1.isNone) = false := by rfl)
    (hks : (backToKw pos (keywordEach [⟨some "default", .Constant (.int i) jk cpos, kpos⟩] X.env)).filterMap (·.1) = [Str.ofString "default"] := by rfl) :
    JE X W (.Call (.Name "max" p) [.Call (.Attribute o "values" apos) [] [] mpos] [⟨some "default", .Constant (.int i) jk cpos, kpos⟩] pos) (.app (sMaxVals i) (.cons co .nil)) := by
  obtain ⟨to, p1, r1⟩ := ho
  refine ⟨_, pe_maxVals hc hg hm p1 hbase hline hse hpl hall hnone hks, fun wd F τ cs σ H P PX Q R rs h q x => ?_⟩
  refine r1 wd F τ cs σ H _ PX _ R rs h (fun wd1 d1 c1 v1 H1 l1 R1 rv1 h1 => ?_) x
  obtain ⟨n, l, is, ed, hcn, hl, h0, h2⟩ := h1
  simp only [List.cons.injEq, and_true] at ed
  subst ed
  obtain ⟨a, kvs, ea, hH, hr, _⟩ := R1.dicAt rv1 hcn
  refine ⟨a, kvs, is, ea, hH, rpL_int (by rw [← hl]; exact hr.vs), fun e => q wd1 (.int i) c1 _ H1 l1 R1 rfl (h0 e), fun m hm1 hm2 => q wd1 (.int m) c1 _ H1 l1 R1 rfl (h2 m hm1 hm2)⟩
theorem op_notT : OpR X (compareOp .IsNot) (fun x y H Q => ∃ b, x = .bl b ∧ y = .bl true ∧ Q (.bl (!b)) H) := by
  intro pins s σ H x y v u Q I rx ry h
  obtain ⟨b, rfl, rfl, q⟩ := h
  cases rx
  cases ry
  cases b <;> exact wpAny_pure (fin_bl I q rfl)
theorem ref_notT : Ref2 X.K (fun x y H Q => ∃ b, x = .bl b ∧ y = .bl true ∧ Q (.bl (!b)) H) sNotT := by
  intro wd F cs H x y v w P PX Q R rx ry hs q
  obtain ⟨b, e, hs⟩ := hs
  simp only [List.cons.injEq, and_true] at e
  obtain ⟨e1, e2⟩ := e
  subst e1 e2
  exact ⟨b, rx, ry, q wd (.bl _) cs _ H (Wd.le.refl _) R rfl hs⟩
theorem j_notT (ha : JE X W a ca) (hb : JE X W b cb) : JE X W (.Compare a [.IsNot] [b] pos) (.app sNotT (.cons ca (.cons cb .nil))) := j_cmp op_notT ref_notT ha hb (nomark _)
theorem jt_notT (ha : JE X W a ca) (hb : JE X W b cb) : JT X W (.Compare a [.IsNot] [b] pos) (.app sNotT (.cons ca (.cons cb .nil))) := jt_cmp op_notT ref_notT ha hb (nomark _)
end
end G

/-! GItems: sorted(d.items()) of a dict with rising int keys. -/
namespace SrtI
open PySem PySem.Spec PyProof.Rows L2 SrtO Srt
/-- the tuple's first item -/
def ky (h : Heap) : Value → Int
  | .ref a => match h.get? a with
    | some o => match o.data with
      | .seq xs _ => match xs.toList with
        | .int x _ :: _ => x
        | _ => 0
      | _ => 0
    | _ => 0
  | _ => 0
def IsPk (h : Heap) (v : Value) (x : Int) : Prop := ∃ a o t u n, v = .ref a ∧ h.get? a = some o ∧ o.cls = .type "tuple" ∧ o.data = .seq #[.int x t, u] n
theorem IsPk.ky {h : Heap} {v : Value} {x : Int} (p : IsPk h v x) : ky h v = x := by
  obtain ⟨a, o, t, u, n, rfl, ho, hc, hd⟩ := p
  simp only [SrtI.ky, ho, hd]
theorem IsPk.keeps {h h' : Heap} {v : Value} {x : Int} (p : IsPk h v x) (k : ∀ b o, h.get? b = some o → o.cls = .type "tuple" → h'.get? b = some o) : IsPk h' v x := by
  obtain ⟨a, o, t, u, n, e, ho, hc, hd⟩ := p
  exact ⟨a, o, t, u, n, e, k _ _ ho hc, hc, hd⟩
section
variable {prog : Program} {w : World} {A : Around} {E : Value → Shared → Prop} {s : Shared}
def ltK (k : Value → Int) (v u : Value) : Bool := decide (k v < k u)
theorem swo_k (k : Value → Int) : Swo (ltK k) := by
  refine ⟨fun x y h => ?_, fun x y z h1 h2 => ?_⟩ <;> simp [ltK] at * <;> omega
theorem pk_cmp {vs : List Value} {k : Value → Int} (hp : ∀ v ∈ vs, IsPk s.heap v (k v)) (hd : ∀ v ∈ vs, ∀ u ∈ vs, k v = k u → v = u) : SrtO.Cmp prog w A s (tuples' true) (fun p => p.1 ∈ vs) (lt2 (ltK k)) := by
  intro p q hm hm'
  have h1 := hp _ hm
  have h2 := hp _ hm'
  have h3 := hd _ hm _ hm'
  show wpAny (model prog w) A (keyLt' (tuples' true) p.1 q.1) (fun r s' => s' = s ∧ r = decide (k p.1 < k q.1)) (fun _ _ => False) s
  generalize k p.1 = x at h1 h3 ⊢
  generalize k q.1 = x' at h2 h3 ⊢
  obtain ⟨a, o, t, u, n, e, ho, hc, hd⟩ := h1
  obtain ⟨a', o', t', u', n', e', ho', hc', hd'⟩ := h2
  rw [e, e'] at h3 ⊢
  refine PySem.W.kat_lt ho hd ho' hd' ?_
  show PySem.W.KatLex prog w A true (decide (2 < 2)) _ [(.int x t, .int x' t'), (u, u')] 0 s
  refine PySem.W.kat_cons (SeqAt.EqAt.int_int x t x' t' prog w _ _ ?_)
  refine PySem.W.kat_go (fun e1 => ?_) (fun e1 => ?_)
  · have ex : x = x' := by simpa using e1
    have ea := h3 ex
    cases ea
    rw [ho] at ho'
    cases ho'
    rw [hd] at hd'
    have eu : u = u' := by
      injection hd' with hx _
      have := congrArg (fun q : Array Value => q.toList) hx
      simp at this
      exact this.2
    subst eu
    refine PySem.W.kat_yes (PySem.W.kat_cons (SeqAt.EqAt.same u prog w _ _ ?_))
    refine PySem.W.kat_go (fun e2 => ?_) (fun e2 => ?_)
    · refine PySem.W.kat_yes (PySem.W.kat_nil ⟨rfl, ?_⟩)
      rw [ex]
      simp
    · cases e2
  · have ex : ¬ x = x' := by simpa using e1
    exact PySem.W.kat_no (oneLt_int ⟨rfl, rfl⟩)
theorem firstsK {h : Heap} : ∀ {vs : List Value}, (∀ v ∈ vs, ∃ x, IsPk h v x) → ∃ fs : List Value, PySem.W.KatTups h vs fs ∧ fs.length = vs.length ∧ ∀ f ∈ fs, ∃ x t, f = Value.int x t
  | [], _ => ⟨[], PySem.W.KatTups.nil, rfl, fun _ hm => by simp at hm⟩
  | v :: vs, hp => by
    obtain ⟨fs, h1, h2, h3⟩ := firstsK (vs := vs) fun v' hm => hp v' (List.mem_cons_of_mem _ hm)
    obtain ⟨x, a, o, t, u, n, e, ho, hc, hd⟩ := hp v (List.mem_cons_self ..)
    subst e
    refine ⟨.int x t :: fs, PySem.W.KatTups.cons ho hc hd rfl h1, by rw [List.length_cons, List.length_cons, h2], fun f hm => ?_⟩
    rcases List.mem_cons.mp hm with rfl | hm
    · exact ⟨x, t, rfl⟩
    · exact h3 f hm
theorem pk_sortable {a : Addr} {vs : List Value} {k : Value → Int} (h0 : 0 < vs.length) (hp : ∀ v ∈ vs, IsPk s.heap v (k v)) (hd : ∀ v ∈ vs, ∀ u ∈ vs, k v = k u → v = u) (ha : ∀ o, s.heap.get? a = some o → o.cls ≠ .type "tuple") : SortableO prog w A s a vs (ltK k) := by
  intro h' keep
  have hp' : ∀ v ∈ vs, IsPk h' v (k v) := fun v hm => (hp v hm).keeps fun b o e c => keep b o (fun z => by subst z; exact ha o e c) e
  obtain ⟨fs, h1, h2, h3⟩ := firstsK fun v hm => ⟨_, hp' v hm⟩
  refine ⟨tuples' true, fun Q E hq => ?_, pk_cmp hp' hd⟩
  refine PySem.W.kat_kind (T := .type "int") h1 (by omega) (fun f hm => ?_) (by rfl) ?_
  · obtain ⟨x, t, rfl⟩ := h3 f hm
    exact PySem.W.Looks.now
  · have e : (Value.type "int" != Value.type "tuple") = true := by first | decide +kernel | rfl | decide
    rw [e]
    exact hq
theorem sh_old {h : Heap} {a b : Addr} {vs : List Value} {out : Array Value} {o : Obj} (hb : b ≠ a) (e : h.get? b = some o) : (sortedHeap h a vs out).get? b = some o := by
  unfold sortedHeap
  rw [Heap.get?_update_ne _ _ _ _ hb]
  refine Heap.get?_push_of_some _ (Heap.get?_push_of_some _ ?_)
  rw [Heap.get?_update_ne _ _ _ _ hb]
  exact e
theorem sh_at {h : Heap} {a : Addr} {vs : List Value} {out : Array Value} {n : Nat} (ho : h.get? a = some (seqObj "list" vs.toArray n)) : ∃ m, (sortedHeap h a vs out).get? a = some (seqObj "list" out m) := by
  have ha : a < h.objs.size := Heap.lt_size ho
  have h1 := get?_update_seq ho (fun _ => #[])
  unfold sortedHeap
  have h2 : (((h.update a (Obj.mapSeq fun _ => #[])).push (seqObj "tuple" vs.toArray 0)).push (seqObj "list" #[] 0)).get? a = some _ := Heap.get?_push_of_some _ (Heap.get?_push_of_some _ h1)
  exact ⟨_, get?_update_seq h2 (fun _ => out)⟩
/-- sorted(view) -/
theorem sorted_view {r d : Addr} {kvs : List (Key × Value)} {ep : Nat} {ks : List Int} {Q : Value → Shared → Prop} (hh : A.in1.handled = none) (hr0 : s.heap.objs.size = r + 1) (hv : s.heap.IsItemsView r d) (hm : s.heap.DictAt (mixKind prog w) d kvs ep) (hn : kvs.length ≤ sizeLine)
    (hk : kvs.map (·.1) = ks.map Sum.inl) (hr : ks.Pairwise (· < ·))
    (h : ∀ (h' : Heap) (tk : Nat) (as : List Addr) (p : Addr) (m : Nat), (∀ b o, s.heap.get? b = some o → h'.get? b = some o) → as.length = kvs.length → PySem.W.KdxG (mixKind prog w) kvs s.heap.objs.size h' as → s.heap.objs.size ≤ p → p ∉ as →
      h'.get? p = some (seqObj "list" (as.map Value.ref).toArray m) → Q (.ref p) { s with heap := h', toks := tk }) :
    wpAny (model prog w) A (call (.builtin "sorted") [.ref r]) Q E s := by
  refine Calls.call_function_entry kind_sorted plain_sorted entry_sorted (args_sorted1 _) ?_
  unfold Builtin.«sorted»
  refine wpAny_bind (m := checkCount "sorted" 1 1 _) (wpAny_pure ?_)
  refine wpAny_bind (PySem.W.kdx_collect (A := A.in1) hh hv hm hn fun h' tk as hk' hl hG => ?_)
  refine wpAny_bind (wpAny_newList ?_ (by rw [List.length_map, hl]; exact hn))
  have low : ∀ b ∈ as, b < h'.objs.size := fun b hb => hG.there hb
  have hoL : (h'.push (seqObj "list" (as.map Value.ref).toArray 0)).get? h'.objs.size = some (seqObj "list" (as.map Value.ref).toArray 0) := Heap.get?_push_size _ rfl
  have hp : ∀ (j : Nat) (a : Addr), as[j]? = some a → ∃ i, ks[j]? = some i ∧ IsPk h' (.ref a) i := fun j a e => by
    obtain ⟨key, k, x, e1, e2, e3⟩ := hG.pairs j a e
    have : (kvs.map (·.1))[j]? = some k := by rw [List.getElem?_map, e1]; rfl
    rw [hk, List.getElem?_map] at this
    obtain ⟨i, hi, rfl⟩ := Option.map_eq_some_iff.mp this
    have e2 : Value.isInt i key = true := e2
    cases key with
    | int i' t =>
      have : i' = i := by simpa [Value.isInt] using e2
      subst this
      exact ⟨i', hi, a, _, t, x, _, rfl, e3, rfl, rfl⟩
    | _ => simp [Value.isInt] at e2
  have hpk : ∀ v ∈ as.map Value.ref, IsPk h' v (ky h' v) := fun v hv => by
    obtain ⟨a, ha, rfl⟩ := List.mem_map.mp hv
    obtain ⟨j, hj⟩ := List.mem_iff_getElem?.mp ha
    obtain ⟨i, _, hi⟩ := hp j a hj
    rw [hi.ky]
    exact hi
  have srt : Srtd (ltK (ky h')) (as.map Value.ref) := by
    refine List.pairwise_iff_getElem.mpr fun i j hi hj hij => ?_
    rw [List.getElem_map, List.getElem_map]
    rw [List.length_map] at hi hj
    obtain ⟨x, hx, px⟩ := hp i _ (List.getElem?_eq_getElem hi)
    obtain ⟨y, hy, py⟩ := hp j _ (List.getElem?_eq_getElem hj)
    have : x < y := by
      obtain ⟨h1, e1⟩ := List.getElem?_eq_some_iff.mp hx
      obtain ⟨h2, e2⟩ := List.getElem?_eq_some_iff.mp hy
      rw [← e1, ← e2]
      exact List.pairwise_iff_getElem.mp hr i j h1 h2 hij
    unfold ltK
    rw [px.ky, py.ky]
    exact decide_eq_false (by omega)
  have dis : ∀ v ∈ as.map Value.ref, ∀ u ∈ as.map Value.ref, ky h' v = ky h' u → v = u := fun v hv u hu e => by
    obtain ⟨a, ha, rfl⟩ := List.mem_map.mp hv
    obtain ⟨b, hb, rfl⟩ := List.mem_map.mp hu
    obtain ⟨i, hi⟩ := List.mem_iff_getElem?.mp ha
    obtain ⟨j, hj⟩ := List.mem_iff_getElem?.mp hb
    obtain ⟨x, hx, px⟩ := hp i _ hi
    obtain ⟨y, hy, py⟩ := hp j _ hj
    rw [px.ky, py.ky] at e
    subst e
    obtain ⟨h1, e1⟩ := List.getElem?_eq_some_iff.mp hx
    obtain ⟨h2, e2⟩ := List.getElem?_eq_some_iff.mp hy
    have : i = j := by
      rcases Nat.lt_trichotomy i j with z | z | z
      · have := List.pairwise_iff_getElem.mp hr i j h1 h2 z
        omega
      · exact z
      · have := List.pairwise_iff_getElem.mp hr j i h2 h1 z
        omega
    subst this
    rw [hi] at hj
    rw [Option.some.inj hj]
  refine wpAny_bind (wpAny_holding (wpAny_call_entry slot_list_sort ⟨_, hoL, rfl⟩ entry_list_sort (list_sort_ord (ltv := ltK (ky h')) (swo_k _) hoL (by rw [List.length_map, hl]; exact hn) (fun h2 => ?_) fun out hs hb => ⟨_, rfl, ?_⟩) (args_list_sort _)))
  · refine pk_sortable (by omega) (fun v hv => (hpk v hv).keeps fun b o e _ => Heap.get?_push_of_some _ e) dis fun o e => ?_
    have e' : some o = some (seqObj "list" (as.map Value.ref).toArray 0) := e.symm.trans hoL
    cases e'
    intro c
    exact absurd (Value.type.inj c) (by decide)
  · have eo : out = as.map Value.ref := stb_uniq (swo_k _) hs srt hb
    subst eo
    obtain ⟨m, hm'⟩ := sh_at (out := (as.map Value.ref).toArray) hoL
    have keep : ∀ b o, h'.get? b = some o → (sortedHeap (h'.push (seqObj "list" (as.map Value.ref).toArray 0)) h'.objs.size (as.map Value.ref) (as.map Value.ref).toArray).get? b = some o := fun b o e => sh_old (Nat.ne_of_lt (Heap.lt_size e)) (Heap.get?_push_of_some _ e)
    refine wpAny_pure ⟨_, rfl, h _ tk as _ m (fun b o e => keep b o (hk' b o e)) hl ⟨hG.rise, hG.above, fun j a e => ?_⟩ ?_ (fun z => Nat.lt_irrefl _ (low _ z)) hm'⟩
    · obtain ⟨key, k, x, e1, e2, e3⟩ := hG.pairs j a e
      exact ⟨key, k, x, e1, e2, keep _ _ e3⟩
    · obtain ⟨ob, eb, _⟩ := hv
      show s.heap.objs.size ≤ h'.objs.size
      rw [hr0]
      exact Nat.succ_le_of_lt (Heap.lt_size (hk' _ _ eb))
end
def rSortItems : V → Hp → VK → Prop := fun x H Q => ∃ (d : Addr) (kvs : List (Key × V)) (ks : List Int), x = .ref d ∧ H d = some (.dK kvs) ∧ kvs.map (·.1) = ks.map Sum.inl ∧ ks.Pairwise (· < ·) ∧
  ∀ (H' : Hp) (p : Addr) (ts : List Addr), (∀ b o, H b = some o → H' b = some o) → H p = none → (∀ t ∈ ts, H t = none) → p ∉ ts → H' p = some (.lst (ts.map V.ref)) → Paired (fun (t : Addr) (q : Key × V) => H' t = some (.tup [kV q.1, q.2])) ts kvs → Q (.ref p) H'
def tSortItems (te : TE) : TE := fun σ H Q => te σ H fun x H1 => rSortItems x H1 Q
section
variable {X : Cx} {e : Expr} {te : TE} {p apos cpos pos : Pos}
theorem laid2 {pins : List (Addr × Obj)} {σ : L2.St} {H : Hp} {s : Shared} {h' : Heap} {tk : Nat} {kvs : List (Key × V)} {vs : List (Key × Value)} {S lo : Addr} {c : Nat} {as : List Addr} (I : Inv X pins σ H s) (hz : kvs.length ≤ sizeLine) (kv : KV kvs vs)
    (hk : ∀ b o, s.heap.get? b = some o → h'.get? b = some o) (hlo : s.heap.objs.size ≤ lo + 1) (hSl : s.heap.objs.size ≤ S) (hSn : S ∉ as) (hS : h'.get? S = some (seqObj "list" (as.map Value.ref).toArray c)) (hl : as.length = vs.length) (hG : PySem.W.KdxG (mixKind X.prog X.w) vs lo h' as) :
    ∃ H' : Hp, (∀ b o, H b = some o → H' b = some o) ∧ H S = none ∧ (∀ t ∈ as, H t = none) ∧ S ∉ as ∧ H' S = some (.lst (as.map V.ref)) ∧ Paired (fun (t : Addr) (q : Key × V) => H' t = some (.tup [kV q.1, q.2])) as kvs ∧ Inv X pins σ H' { s with heap := h', toks := tk } := by
  have lk : kvs.length = vs.length := Paired.length kv
  have above : ∀ a ∈ as, s.heap.objs.size ≤ a := fun a ha => Nat.le_trans hlo (Nat.succ_le_of_lt (hG.above a ha))
  have nd : as.Nodup := List.Pairwise.imp (fun {a b} (h : a < b) => Nat.ne_of_lt h) hG.rise
  have new : ∀ t ∈ as, H t = none := fun t ht => I.hok.fresh (above t ht)
  have newS : H S = none := I.hok.fresh hSl
  have atP := LiI.putT_at as kvs (upd H S (.lst (as.map V.ref))) (by omega) nd
  have off : ∀ b, b ∉ as → b ≠ S → LiI.putT (upd H S (.lst (as.map V.ref))) as kvs b = H b := fun b h1 h2 => by rw [LiI.putT_off as kvs _ h1, upd_ne h2]
  have low : ∀ b o, s.heap.get? b = some o → b ∉ as ∧ b ≠ S := fun b o e => ⟨fun z => absurd (Heap.lt_size e) (Nat.not_lt.mpr (above b z)), fun z => absurd (Heap.lt_size e) (by rw [z]; exact Nat.not_lt.mpr hSl)⟩
  have kp : ∀ b u, H b = some u → (LiI.putT (upd H S (.lst (as.map V.ref))) as kvs) b = some u := fun b u e => by
    rw [off b (fun z => by rw [new b z] at e; cases e) (fun z => by rw [z, newS] at e; cases e)]
    exact e
  have eS : LiI.putT (upd H S (.lst (as.map V.ref))) as kvs S = some (.lst (as.map V.ref)) := by rw [LiI.putT_off as kvs _ hSn, upd_same]
  refine ⟨LiI.putT (upd H S (.lst (as.map V.ref))) as kvs, kp, newS, new, hSn, eS, atP, ?_⟩
  refine I.call' (ch := []) rfl ⟨fun b o q _ _ _ => hk b o q, fun b o q _ _ _ => ⟨o.slots, hk b o q⟩, fun b o q n _ => ?_, fun b o q _ => ⟨o, hk b o q⟩, fun b xs q => kp b _ q, fun b o u q => kp b _ q, fun b ps q => ⟨#[], by rw [kp b _ q]; simp⟩⟩ (fun b u q => ?_) I.bare fun b z => by simp at z
  · obtain ⟨z1, z2⟩ := low b o q
    rw [off b z1 z2]
    exact n
  · by_cases hb : b ∈ as
    · obtain ⟨j, pk, e1, e2, e3⟩ := LiI.paired_ix atP hb
      rw [e3] at q
      cases q
      obtain ⟨key, k, x, f1, f2, f3⟩ := hG.pairs j b e1
      obtain ⟨qv, g1, g2, g3⟩ := LiI.paired_get kv e2
      rw [f1] at g1
      cases g1
      have rk : RelV (kV pk.1) key := by
        rw [g2]
        exact relV_key (show keyIs k key = true from f2)
      exact ⟨by show 2 ≤ sizeLine; decide, [key, x], .cons rk (.cons g3 .nil), ⟨_, f3, rfl, _, rfl⟩⟩
    · by_cases hb2 : b = S
      · rw [hb2] at q ⊢
        rw [eS] at q
        cases q
        refine ⟨by rw [List.length_map]; omega, as.map Value.ref, c, LiI.vals_refs as, hS⟩
      · rw [off b hb hb2] at q
        exact (I.hok b u q).stay (fun d v _ y => hk d v y) (fun d y => kp d _ y) fun d xs y => kp d _ y
theorem pe_sortItems (hc : X.calm = true) (he : PE X e te) (hg : Gl X "sorted") (hm : X.mg "sorted" = none) (hbase : attributeBase e "items" X.env (eval e X.env) = eval e X.env := by rfl) (hline : (apos.endLine == cpos.line) = true := by rfl)
    (hs : starEach [.Call (.Attribute e "items" apos) [] [] cpos] X.env = [(false, eval (.Call (.Attribute e "items" apos) [] [] cpos) X.env)] := by rfl) :
    PE X (.Call (.Name "sorted" p) [.Call (.Attribute e "items" apos) [] [] cpos] [] pos) (tSortItems te) := by
  refine ⟨fun pins s σ H Q I hq => ?_⟩
  refine wpAny_Call_Name_kw (ld_blt I hg hm (u := .builtin "sorted") (by first | rfl | decide +kernel) ?_ (by first | decide +kernel | decide) (by first | decide +kernel | decide))
  rw [hs]
  refine PySem.callWith_builtin1 (wpAny_Call_method0_late hbase hline (thn (he.run pins s σ H _ I hq) fun v s1 ⟨x, H1, I1, r1, a, kvs, ks, ex, ha, hk, hr, q⟩ => ?_))
  subst ex
  obtain rfl : v = Value.ref a := r1
  obtain ⟨hz, hsys, vs, rel, dof⟩ := dk_of I1.hok ha
  obtain ⟨ep, dat⟩ := dof.dictAt
  have dat' := dat
  obtain ⟨ob, es, ho, ex, hdat, hko, hpr, hnd⟩ := dat'
  refine ⟨"dict", "dict.items", F.plainAttrs_dict, F.slot_dict_items, F.type_dict_items, ⟨ob, ho, ex.1⟩, fun b e => ?_, Calls.callWith_builtin rfl (PySem.evalArgs_none ?_)⟩
  · cases e
    exact ⟨ob, ho, ex.2.1⟩
  refine call_meetsIn F.slot_dict_items ⟨ob, ho, ex.1⟩ F.entry_dict_items (F.args_dict_items_1 _) (meets_dict_items (mixKind X.prog X.w) a hsys) ⟨⟨vs, dof⟩, ?_⟩
  have k1 : ∀ b u, s1.heap.get? b = some u → (s1.heap.push { cls := .type "dict_items", data := .fields #[.ref a] }).get? b = some u := fun b u e => Heap.get?_push_of_some _ e
  have dat1 : (s1.heap.push { cls := .type "dict_items", data := .fields #[.ref a] }).DictAt (mixKind X.prog X.w) a vs ep := dat.keep k1
  have lk : kvs.length = vs.length := Paired.length rel
  have I2 : Inv X pins σ H1 { s1 with heap := s1.heap.push { cls := .type "dict_items", data := .fields #[.ref a] } } := I1.kept (t' := s1.toks) fun b ob q => Heap.get?_push_of_some _ q
  have hk' : vs.map (·.1) = ks.map Sum.inl := by rw [← rel.keys]; exact hk
  refine sorted_view (kvs := vs) (ep := ep) (ks := ks) (I1.ok.hd hc) (Heap.size_push _ _) ⟨_, Heap.get?_push_size _ rfl, rfl, rfl⟩ dat1 (by omega) hk' hr fun h' tk as p m hkp hl hG hp hpn hpa => ?_
  obtain ⟨H', k1, k2, k3, k4, k5, k6, J⟩ := laid2 (tk := tk) I2 hz rel hkp (Nat.le_succ _) hp hpn hpa hl hG
  exact ⟨.ref _, H', J, rfl, q H' _ as k1 k2 k3 k4 k5 k6⟩
end
end SrtI
namespace G
open PySem PySem.Spec L2
open Evl (Ex)
theorem RpL.back {K : PySem.W.Frag} {wd : Wd} : ∀ {ds : List D} {vs : List V}, RpL K wd ds vs → True := fun _ => trivial
/-- new known objects -/
theorem Rl.growA {K : PySem.W.Frag} {wd : Wd} {F H H' : Hp} {cs : Cs} (R : Rl K wd F cs H) (k : Ex H H') (A : List Addr) (hA : ∀ a ∈ A, H a = none ∧ ∃ o, H' a = some o ∧ ∀ q, o ≠ .tbl q) :
    ∃ wd' : Wd, wd.le wd' ∧ Rl K wd' F cs H' ∧ ∀ a ∈ A, wd'.B a = H' a := by
  have le : wd.le ⟨fun a => if a ∈ A then H' a else wd.B a, wd.r, wd.k⟩ := ⟨fun a o e => by
    show (if a ∈ A then H' a else wd.B a) = some o
    by_cases h : a ∈ A
    · rw [if_pos h]
      exact k _ _ (R.b _ _ e)
    · rw [if_neg h]
      exact e, fun _ _ h => h⟩
  refine ⟨⟨fun a => if a ∈ A then H' a else wd.B a, wd.r, wd.k⟩, le, ⟨fun a o e => ?_, fun a o e => k _ _ (R.f _ _ e), fun a o e => ?_, R.inj, fun n o e => ?_, fun n a e => ?_, R.top, R.rf, R.fe, fun p hp => ?_, fun a q e => ?_⟩, fun a ha => if_pos ha⟩
  · have e : (if a ∈ A then H' a else wd.B a) = some o := e
    by_cases h : a ∈ A
    · rw [if_pos h] at e
      exact e
    · rw [if_neg h] at e
      exact k _ _ (R.b _ _ e)
  · have e : (if a ∈ A then H' a else wd.B a) = some o := e
    by_cases h : a ∈ A
    · exact Evl.fresh_back R.f (hA a h).1
    · rw [if_neg h] at e
      exact R.bf _ _ e
  · obtain ⟨a, u, e1, e2, e3, e4, e5⟩ := R.cell n o e
    have h : a ∉ A := fun z => by rw [(hA a z).1] at e4; cases e4
    exact ⟨a, u, e1, (if_neg h).trans e2, e3, k _ _ e4, e5.mono le⟩
  · obtain ⟨o, e1, e2⟩ := R.ran n a e
    exact ⟨o, k _ _ e1, e2⟩
  · obtain ⟨ps, h1, h2, h3⟩ := R.tab p hp
    refine ⟨ps, k _ _ h1, h2, fun pos cv e => ?_⟩
    obtain ⟨c, e1, e2⟩ := h3 pos cv e
    exact ⟨c, e1, le.B _ _ e2⟩
  · have e : (if a ∈ A then H' a else wd.B a) = some (.tbl q) := e
    by_cases h : a ∈ A
    · rw [if_pos h] at e
      obtain ⟨o, e1, e2⟩ := (hA a h).2
      rw [e1] at e
      exact e2 q (Option.some.inj e)
    · rw [if_neg h] at e
      exact R.bt _ _ e
def itemsD (l : DL) : List D := l.map fun p => .tup [kD p.1, p.2]
def sSortItems : Spec := fun ds cs Q _ => ∃ n l, ∃ ks : List Int, ds = [.ref n] ∧ cs n = some (dicO l) ∧ l.map (·.1) = ks.map Sum.inl ∧ ks.Pairwise (· < ·) ∧ Q (.lst (itemsD l)) cs
theorem items_rp {K : PySem.W.Frag} {wd wd' : Wd} {H' : Hp} {A : List Addr} (le : wd.le wd') (hB : ∀ a ∈ A, wd'.B a = H' a) : ∀ {l : DL} {kvs : List (Key × V)} {ts : List Addr}, DicR K wd l kvs → (∀ t ∈ ts, t ∈ A) → Paired (fun (t : Addr) (q : Key × V) => H' t = some (.tup [kV q.1, q.2])) ts kvs → RpL K wd' (itemsD l) (ts.map V.ref)
  | [], [], [], _, _, _ => rfl
  | p :: l, q :: kvs, t :: ts, d, hA, .cons h1 h2 => by
    obtain ⟨a, b, c⟩ := d.cons_inv
    refine ⟨.ref t, ts.map V.ref, rfl, ⟨t, [kV q.1, q.2], rfl, ?_, kV q.1, [q.2], rfl, ?_, q.2, [], rfl, Rp.mono le _ _ b, rfl⟩, items_rp le hB c (fun t' ht => hA t' (List.mem_cons_of_mem _ ht)) h2⟩
    · rw [hB t (hA t List.mem_cons_self)]
      exact h1
    · rw [a]
      exact Rp.key_of
  | [], _ :: _, _, d, _, _ => by have := d.ks; simp at this
  | _ :: _, [], _, d, _, _ => by have := d.ks; simp at this
section
variable {X : Cx} {W : WX} {pos apos cpos p : Pos} {e : Expr} {ce : E}
theorem j_sortItems (hc : X.calm = true) (hg : Gl X "sorted") (hm : X.mg "sorted" = none) (he : JE X W e ce) (hbase : attributeBase e "items" X.env (eval e X.env) = eval e X.env := by rfl) (hline : (apos.endLine == cpos.line) = true := by rfl)
    (hs : starEach [.Call (.Attribute e "items" apos) [] [] cpos] X.env = [(false, eval (.Call (.Attribute e "items" apos) [] [] cpos) X.env)] := by rfl) :
    JE X W (.Call (.Name "sorted" p) [.Call (.Attribute e "items" apos) [] [] cpos] [] pos) (.app sSortItems (.cons ce .nil)) := by
  obtain ⟨te, p1, r1⟩ := he
  refine ⟨_, SrtI.pe_sortItems hc p1 hg hm hbase hline hs, fun wd F τ cs σ H P PX Q R rs h q x => ?_⟩
  refine r1 wd F τ cs σ H _ PX _ R rs h (fun wd1 d1 c1 v1 H1 l1 R1 rv1 h1 => ?_) x
  obtain ⟨n, l, ks, ed, hcn, hl, hr, h2⟩ := h1
  simp only [List.cons.injEq, and_true] at ed
  subst ed
  obtain ⟨a, kvs, ea, hH, hd, _⟩ := R1.dicAt rv1 hcn
  refine ⟨a, kvs, ks, ea, hH, by rw [← hd.ks]; exact hl, hr, fun H' p ts k1 k2 k3 k4 k5 k6 => ?_⟩
  have hts : ∀ t ∈ ts, ∃ o, H' t = some o ∧ ∀ q, o ≠ .tbl q := fun t ht => by
    obtain ⟨j, pk, e1, e2, e3⟩ := LiI.paired_ix k6 ht
    exact ⟨_, e3, fun q z => by cases z⟩
  obtain ⟨wd2, l2, R2, hB⟩ := R1.growA k1 (p :: ts) fun b hb => by
    rcases List.mem_cons.mp hb with rfl | hb
    · exact ⟨k2, _, k5, fun q z => by cases z⟩
    · exact ⟨k3 b hb, hts b hb⟩
  refine q wd2 (.lst (itemsD l)) c1 _ H' (l1.trans l2) R2 ⟨p, _, rfl, ?_, items_rp l2 hB hd (fun t ht => List.mem_cons_of_mem _ ht) k6⟩ h2
  rw [hB p List.mem_cons_self]
  exact k5
end
end G

namespace G
def c_power_of_1 : S := (.asg (.nm 2) (.c (.int 1)))
def c_power_of_2 : S := (.asg (.nm 2) (.app sMul (.cons (.v 2) (.cons (.v 0) .nil))))
def c_power_of_3 : S := (.fr (.nm 3) iRng1 (.cons (.v 1) .nil) (c_power_of_2))
def c_power_of_4 : S := (.ret (.v 2))
def c_power_of : S := (.seq (c_power_of_1) (.seq (c_power_of_3) (c_power_of_4)))
def c_common_divisor_1 : S := (.asg (.tup (.cons (.nm 0) (.cons (.nm 1) .nil))) (.app sTup (.cons (.v 1) (.cons (.app sMod (.cons (.v 0) (.cons (.v 1) .nil))) .nil))))
def c_common_divisor_2 : S := (.whl (.app sGt (.cons (.v 1) (.cons (.c (.int 0)) .nil))) (c_common_divisor_1))
def c_common_divisor_3 : S := (.ret (.v 0))
def c_common_divisor : S := (.seq (c_common_divisor_2) (c_common_divisor_3))
def c_mean_total_1 (p_check_times : G.Spec) (p_check_weights : G.Spec) (p_common_divisor : G.Spec) (p_depth_of : G.Spec) (p_power_of : G.Spec) (p_subtree_of : G.Spec) : S := (.exp (.app p_check_times (.cons (.v 1) .nil)))
def c_mean_total_2 (p_check_times : G.Spec) (p_check_weights : G.Spec) (p_common_divisor : G.Spec) (p_depth_of : G.Spec) (p_power_of : G.Spec) (p_subtree_of : G.Spec) : S := (.asg (.nm 3) (.app p_check_weights (.cons (.v 0) (.cons (.v 2) .nil))))
def c_mean_total_3 (p_check_times : G.Spec) (p_check_weights : G.Spec) (p_common_divisor : G.Spec) (p_depth_of : G.Spec) (p_power_of : G.Spec) (p_subtree_of : G.Spec) : S := (.asg (.nm 4) (.app sSum (.cons (.v 3) .nil)))
def c_mean_total_4 (p_check_times : G.Spec) (p_check_weights : G.Spec) (p_common_divisor : G.Spec) (p_depth_of : G.Spec) (p_power_of : G.Spec) (p_subtree_of : G.Spec) : S := (.ret (.app sTup (.cons (.c (.int 0)) (.cons (.c (.int 1)) .nil))))
def c_mean_total_5 (p_check_times : G.Spec) (p_check_weights : G.Spec) (p_common_divisor : G.Spec) (p_depth_of : G.Spec) (p_power_of : G.Spec) (p_subtree_of : G.Spec) : S := (.ite (.or (.app sEq (.cons (.v 1) (.cons (.c (.int 0)) .nil))) (.app sEq (.cons (.v 4) (.cons (.c (.int 0)) .nil)))) (c_mean_total_4 p_check_times p_check_weights p_common_divisor p_depth_of p_power_of p_subtree_of) .skip)
def c_mean_total_6 (p_check_times : G.Spec) (p_check_weights : G.Spec) (p_common_divisor : G.Spec) (p_depth_of : G.Spec) (p_power_of : G.Spec) (p_subtree_of : G.Spec) : S := (.asg (.nm 5) (.app p_power_of (.cons (.v 4) (.cons (.v 1) .nil))))
def c_mean_total_7 (p_check_times : G.Spec) (p_check_weights : G.Spec) (p_common_divisor : G.Spec) (p_depth_of : G.Spec) (p_power_of : G.Spec) (p_subtree_of : G.Spec) : S := (.asg (.nm 7) (.app sMul (.cons (.app sMul (.cons (.v 1) (.cons (.app sSum (.cons (.comp false [6, 10] (.tup (.cons (.nm 6) (.cons (.nm 10) .nil))) iEnum (.cons (.v 0) .nil) (.app sNe (.cons (.v 10) (.cons (.v 6) .nil))) (.app sIx (.cons (.v 3) (.cons (.v 6) .nil)))) .nil)) .nil))) (.cons (.app p_power_of (.cons (.v 4) (.cons (.app sSub (.cons (.v 1) (.cons (.c (.int 1)) .nil))) .nil))) .nil))))
def c_mean_total_8 (p_check_times : G.Spec) (p_check_weights : G.Spec) (p_common_divisor : G.Spec) (p_depth_of : G.Spec) (p_power_of : G.Spec) (p_subtree_of : G.Spec) : S := (.asg (.nm 8) (.app sSub (.cons (.v 4) (.cons (.app sSum (.cons (.comp false [11] (.nm 11) iSeq (.cons (.app p_subtree_of (.cons (.v 0) (.cons (.v 6) .nil))) .nil) (.c (.bl true)) (.app sIx (.cons (.v 3) (.cons (.v 11) .nil)))) .nil)) .nil))))
def c_mean_total_9 (p_check_times : G.Spec) (p_check_weights : G.Spec) (p_common_divisor : G.Spec) (p_depth_of : G.Spec) (p_power_of : G.Spec) (p_subtree_of : G.Spec) : S := (.asg (.nm 7) (.app sIAdd (.cons (.v 7) (.cons (.app sSub (.cons (.v 5) (.cons (.app p_power_of (.cons (.v 8) (.cons (.v 1) .nil))) .nil))) .nil))))
def c_mean_total_10 (p_check_times : G.Spec) (p_check_weights : G.Spec) (p_common_divisor : G.Spec) (p_depth_of : G.Spec) (p_power_of : G.Spec) (p_subtree_of : G.Spec) : S := (.ite (.app sGt (.cons (.app p_depth_of (.cons (.v 0) (.cons (.v 6) .nil))) (.cons (.c (.int 1)) .nil))) (.seq (c_mean_total_8 p_check_times p_check_weights p_common_divisor p_depth_of p_power_of p_subtree_of) (c_mean_total_9 p_check_times p_check_weights p_common_divisor p_depth_of p_power_of p_subtree_of)) .skip)
def c_mean_total_11 (p_check_times : G.Spec) (p_check_weights : G.Spec) (p_common_divisor : G.Spec) (p_depth_of : G.Spec) (p_power_of : G.Spec) (p_subtree_of : G.Spec) : S := (.fr (.nm 6) iRng1 (.cons (.app sLen (.cons (.v 0) .nil)) .nil) (c_mean_total_10 p_check_times p_check_weights p_common_divisor p_depth_of p_power_of p_subtree_of))
def c_mean_total_12 (p_check_times : G.Spec) (p_check_weights : G.Spec) (p_common_divisor : G.Spec) (p_depth_of : G.Spec) (p_power_of : G.Spec) (p_subtree_of : G.Spec) : S := (.asg (.nm 9) (.app p_common_divisor (.cons (.v 5) (.cons (.v 7) .nil))))
def c_mean_total_13 (p_check_times : G.Spec) (p_check_weights : G.Spec) (p_common_divisor : G.Spec) (p_depth_of : G.Spec) (p_power_of : G.Spec) (p_subtree_of : G.Spec) : S := (.ret (.app sTup (.cons (.app sDiv (.cons (.v 7) (.cons (.v 9) .nil))) (.cons (.app sDiv (.cons (.v 5) (.cons (.v 9) .nil))) .nil))))
def c_mean_total (p_check_times : G.Spec) (p_check_weights : G.Spec) (p_common_divisor : G.Spec) (p_depth_of : G.Spec) (p_power_of : G.Spec) (p_subtree_of : G.Spec) : S := (.seq (c_mean_total_1 p_check_times p_check_weights p_common_divisor p_depth_of p_power_of p_subtree_of) (.seq (c_mean_total_2 p_check_times p_check_weights p_common_divisor p_depth_of p_power_of p_subtree_of) (.seq (c_mean_total_3 p_check_times p_check_weights p_common_divisor p_depth_of p_power_of p_subtree_of) (.seq (c_mean_total_5 p_check_times p_check_weights p_common_divisor p_depth_of p_power_of p_subtree_of) (.seq (c_mean_total_6 p_check_times p_check_weights p_common_divisor p_depth_of p_power_of p_subtree_of) (.seq (c_mean_total_7 p_check_times p_check_weights p_common_divisor p_depth_of p_power_of p_subtree_of) (.seq (c_mean_total_11 p_check_times p_check_weights p_common_divisor p_depth_of p_power_of p_subtree_of) (.seq (c_mean_total_12 p_check_times p_check_weights p_common_divisor p_depth_of p_power_of p_subtree_of) (c_mean_total_13 p_check_times p_check_weights p_common_divisor p_depth_of p_power_of p_subtree_of)))))))))
def c_check_weightsX_1 : S := (.asg (.nm 2) (.ite (.app sIsN (.cons (.v 1) (.cons (.c .non) .nil))) (.app sDNew .nil) (.v 1)))
def c_check_weightsX_2 : S := (.rse (fun ds => er "NoNode" "node" (ds.headD .non)) (.cons (.v 3) .nil))
def c_check_weightsX_3 : S := (.ite (.app sNot (.cons (.chain sLe sLt (.c (.int 0)) (.v 3) (.app sLen (.cons (.v 0) .nil))) .nil)) (c_check_weightsX_2) .skip)
def c_check_weightsX_4 : S := (.fr (.nm 3) iSeq (.cons (.app sSortD (.cons (.v 2) .nil)) .nil) (c_check_weightsX_3))
def c_check_weightsX_5 : S := (.rse (fun ds => er "BadWeight" "node" (ds.headD .non)) (.cons (.v 3) .nil))
def c_check_weightsX_6 : S := (.ite (.app sNot (.cons (.chain sLe sLe (.c (.int 1)) (.app sDIx (.cons (.v 2) (.cons (.v 3) .nil))) (.c (.int 1000))) .nil)) (c_check_weightsX_5) .skip)
def c_check_weightsX_7 : S := (.fr (.nm 3) iSeq (.cons (.app sSortD (.cons (.v 2) .nil)) .nil) (c_check_weightsX_6))
def c_check_weightsX_8 : S := (.ret (.comp false [3] (.nm 3) iRng1 (.cons (.app sLen (.cons (.v 0) .nil)) .nil) (.c (.bl true)) (.meth chkD sDGet2 (.v 2) (.cons (.v 3) (.cons (.c (.int 1)) .nil)))))
def c_check_weightsX : S := (.seq (c_check_weightsX_1) (.seq (c_check_weightsX_4) (.seq (c_check_weightsX_7) (c_check_weightsX_8))))
def c_check_timesX_1 : S := (.rse (fun ds => er "BadCount" "count" (ds.headD .non)) (.cons (.v 0) .nil))
def c_check_timesX_2 : S := (.ite (.app sNot (.cons (.chain sLe sLe (.c (.int 0)) (.v 0) (.c (.int 20))) .nil)) (c_check_timesX_1) .skip)
def c_check_timesX : S := (c_check_timesX_2)
def c_l_reduced_1 : S := (.asg (.tup (.cons (.nm 2) (.cons (.nm 3) .nil))) (.app sTup (.cons (.v 1) (.cons (.v 0) .nil))))
def c_l_reduced_2 : S := (.asg (.tup (.cons (.nm 2) (.cons (.nm 3) .nil))) (.app sTup (.cons (.v 3) (.cons (.app sMod (.cons (.v 2) (.cons (.v 3) .nil))) .nil))))
def c_l_reduced_3 : S := (.whl (.app sGt (.cons (.v 3) (.cons (.c (.int 0)) .nil))) (c_l_reduced_2))
def c_l_reduced_4 : S := (.ret (.app sTup (.cons (.app sDiv (.cons (.v 0) (.cons (.v 2) .nil))) (.cons (.app sDiv (.cons (.v 1) (.cons (.v 2) .nil))) .nil))))
def c_l_reduced : S := (.seq (c_l_reduced_1) (.seq (c_l_reduced_3) (c_l_reduced_4)))
def c_check_weights_1 : S := (.asg (.nm 2) (.ite (.app sIsN (.cons (.v 1) (.cons (.c .non) .nil))) (.app sDNew .nil) (.v 1)))
def c_check_weights_2 : S := (.ite (.app sNot (.cons (.chain sLe sLt (.c (.int 0)) (.v 3) (.app sLen (.cons (.v 0) .nil))) .nil)) G.stuck .skip)
def c_check_weights_3 : S := (.fr (.nm 3) iSeq (.cons (.app sSortD (.cons (.v 2) .nil)) .nil) (c_check_weights_2))
def c_check_weights_4 : S := (.ite (.app sNot (.cons (.chain sLe sLe (.c (.int 1)) (.app sDIx (.cons (.v 2) (.cons (.v 3) .nil))) (.c (.int 1000))) .nil)) G.stuck .skip)
def c_check_weights_5 : S := (.fr (.nm 3) iSeq (.cons (.app sSortD (.cons (.v 2) .nil)) .nil) (c_check_weights_4))
def c_check_weights_6 : S := (.ret (.comp false [3] (.nm 3) iRng1 (.cons (.app sLen (.cons (.v 0) .nil)) .nil) (.c (.bl true)) (.meth chkD sDGet2 (.v 2) (.cons (.v 3) (.cons (.c (.int 1)) .nil)))))
def c_check_weights : S := (.seq (c_check_weights_1) (.seq (c_check_weights_3) (.seq (c_check_weights_5) (c_check_weights_6))))
def c_check_times_1 : S := (.ite (.app sNot (.cons (.chain sLe sLe (.c (.int 0)) (.v 0) (.c (.int 20))) .nil)) G.stuck .skip)
def c_check_times : S := (c_check_times_1)
end G

/-! GMaxP: max of a list of pairs of ints. -/
namespace G
open PySem PySem.Spec L2
open PySem.W (dataLt dataLt_all_yes dataLt_all_no dataLt_int dataLt_tuple maxD AlikeAll max_list_data keyToksAll alike alikeAll)
open Evl (Ex)
/-- the order of pairs -/
def pLe (a b : Int × Int) : Prop := a.1 < b.1 ∨ (a.1 = b.1 ∧ a.2 ≤ b.2)
def prI (q : Int × Int) : D := .tup [.int q.1, .int q.2]
def prP (q : Int × Int) : PyData := .tuple [.int q.1, .int q.2]
def sMaxP : Spec := fun ds cs Q _ => ∃ x, ∃ ps : List (Int × Int), ds = [x] ∧ getL x cs = some (ps.map prI) ∧ ps ≠ [] ∧ ∀ m, m ∈ ps → (∀ y ∈ ps, pLe y m) → Q (prI m) cs
theorem pLe_refl (a : Int × Int) : pLe a a := .inr ⟨rfl, Int.le_refl _⟩
theorem pLe_trans {a b c : Int × Int} (h : pLe a b) (k : pLe b c) : pLe a c := by
  unfold pLe at *
  omega
theorem dataLt_pr (a b : Int × Int) : dataLt (prP a) (prP b) = true ↔ a.1 < b.1 ∨ (a.1 = b.1 ∧ a.2 < b.2) := by
  unfold prP
  rw [dataLt_tuple]
  by_cases e : a.1 = b.1
  · rw [dataLt_all_yes rfl (by simp [PyData.eqv, e])]
    by_cases e2 : a.2 = b.2
    · rw [dataLt_all_yes rfl (by simp [PyData.eqv, e2])]
      rw [show PyProof.Rows.lexLt PyProof.Rows.itemOrd (keyToksAll []) (keyToksAll []) = false from PyProof.Rows.lex_irrefl _]
      constructor
      · intro z; cases z
      · intro z; omega
    · rw [dataLt_all_no rfl (by simp [PyData.eqv, e2]), dataLt_int, decide_eq_true_iff]
      omega
  · rw [dataLt_all_no rfl (by simp [PyData.eqv, e]), dataLt_int, decide_eq_true_iff]
    omega
theorem maxD_pr : ∀ (xs : List (Int × Int)) (x : Int × Int), ∃ m, m ∈ x :: xs ∧ maxD (prP x) (xs.map prP) = prP m ∧ ∀ y ∈ x :: xs, pLe y m
  | [], x => ⟨x, List.mem_cons_self, rfl, fun y hy => by rw [List.mem_singleton.mp hy]; exact pLe_refl _⟩
  | z :: xs, x => by
    by_cases e : dataLt (prP x) (prP z) = true
    · obtain ⟨m, h1, h2, h3⟩ := maxD_pr xs z
      refine ⟨m, List.mem_cons_of_mem _ h1, ?_, ?_⟩
      · rw [← h2]
        show (xs.map prP).foldl _ (if dataLt (prP x) (prP z) then prP z else prP x) = _
        rw [if_pos e]
        rfl
      · intro y hy
        rcases List.mem_cons.mp hy with hy | hy
        · rw [hy]
          refine pLe_trans ?_ (h3 z List.mem_cons_self)
          have := (dataLt_pr x z).mp e
          unfold pLe
          omega
        · exact h3 y hy
    · obtain ⟨m, h1, h2, h3⟩ := maxD_pr xs x
      refine ⟨m, ?_, ?_, ?_⟩
      · rcases List.mem_cons.mp h1 with h1 | h1
        · rw [h1]; exact List.mem_cons_self
        · exact List.mem_cons_of_mem _ (List.mem_cons_of_mem _ h1)
      · rw [← h2]
        show (xs.map prP).foldl _ (if dataLt (prP x) (prP z) then prP z else prP x) = _
        rw [if_neg e]
        rfl
      · intro y hy
        rcases List.mem_cons.mp hy with hy | hy
        · rw [hy]; exact h3 x List.mem_cons_self
        · rcases List.mem_cons.mp hy with hy | hy
          · rw [hy]
            refine pLe_trans ?_ (h3 x List.mem_cons_self)
            have := mt (dataLt_pr x z).mpr e
            unfold pLe
            omega
          · exact h3 y (List.mem_cons_of_mem _ hy)
theorem prP_inj {a b : Int × Int} (h : prP a = prP b) : a = b := by
  unfold prP at h
  injection h with h
  injection h with h1 h2
  injection h2 with h2 _
  injection h1 with h1
  injection h2 with h2
  exact Prod.ext h1 h2
theorem alike_pr (ps : List (Int × Int)) : AlikeAll (ps.map prP) := by
  constructor
  · intro x hx y hy
    obtain ⟨a, _, rfl⟩ := List.mem_map.mp hx
    obtain ⟨b, _, rfl⟩ := List.mem_map.mp hy
    simp [prP, alike, alikeAll]
  · intro x hx e
    obtain ⟨a, _, rfl⟩ := List.mem_map.mp hx
    cases e
theorem depth_pr : ∀ ps : List (Int × Int), PyData.depthAll (ps.map prP) ≤ 2
  | [] => by simp [PyData.depthAll]
  | p :: ps => by
    have := depth_pr ps
    have e : (prP p).depth ≤ 2 := by simp [prP, PyData.depth, PyData.depthAll]
    simp only [List.map_cons, PyData.depthAll]
    omega
def rMaxP (K : PySem.W.Frag) : List V → Hp → VK → Prop := fun vs H Q => ∃ (a : Addr) (ws : List V) (ps : List (Int × Int)), vs = [V.ref a] ∧ SqL K H a ws ∧ DpAll K H ws (ps.map prP) ∧ ps ≠ [] ∧
  ∀ (i : Nat) w m, ws[i]? = some w → ps[i]? = some m → (∀ y ∈ ps, pLe y m) → Q w H
theorem readsAll_get {h : Heap} : ∀ {vs : List Value} {ds : List PyData} {as : List Addr}, ReadsAll h vs ds as → ∀ (i : Nat) v, vs[i]? = some v → ∃ d bs, ds[i]? = some d ∧ Reads h v d bs
  | [], _, _, _, i, v, e => by simp at e
  | u :: vs, _, _, .cons r rs, 0, v, e => by
    cases e
    exact ⟨_, _, rfl, r⟩
  | u :: vs, _, _, .cons r rs, i + 1, v, e => readsAll_get rs i v (by simpa using e)
theorem readsAll_two {h : Heap} {l : List Value} {a b : Int} {as : List Addr} (r : ReadsAll h l [.int a, .int b] as) : ∃ t u, l = [.int a t, .int b u] := by
  cases r with
  | cons r1 r2 =>
    cases r2 with
    | cons r3 r4 =>
      cases r4
      cases r1
      cases r3
      exact ⟨_, _, rfl⟩
/-- what is read is read one way only (pairs of ints) -/
theorem reads_pr {h : Heap} {v : Value} {d : PyData} {m : Int × Int} {as bs : List Addr} {q : Int × Int} (e : d = prP q) (r1 : Reads h v d as) (r2 : Reads h v (prP m) bs) : q = m := by
  subst e
  unfold prP at r1 r2
  cases r1 with
  | tuple h1 h2 h3 h4 =>
    cases r2 with
    | tuple g1 g2 g3 g4 =>
      rw [h1] at g1
      cases g1
      rw [h3] at g3
      cases g3
      obtain ⟨t1, u1, e1⟩ := readsAll_two h4
      obtain ⟨t2, u2, e2⟩ := readsAll_two g4
      rw [e1] at e2
      injection e2 with a1 a2
      injection a2 with a2 _
      injection a1 with a1
      injection a2 with a2
      exact Prod.ext a1 a2
theorem cr_maxP {X : Cx} (hc : X.calm = true) (hu : X.A.units + 64 < cLine) : CallR X (.builtin "max") (rMaxP X.K) := by
  intro pins s σ H vs us Q I r h
  obtain ⟨a, ws, ps, rfl, hs, hd, hne, q⟩ := h
  obtain ⟨its, rv, hl, _⟩ := I.list hs
  rw [Vals.ref1 r]
  obtain ⟨as, hr⟩ := Dp.readsAll I _ _ its hd rv
  cases ps with
  | nil => exact absurd rfl hne
  | cons p ps =>
    have dl := depth_pr (p :: ps)
    refine max_list_data (x := prP p) (xs := ps.map prP) (as := as) (I.ok.hd hc) hl.isList (by simpa using hr) (alike_pr (p :: ps)) (by
      rw [show prP p :: ps.map prP = (p :: ps).map prP from rfl]
      omega) fun i v h' tk bs ei hrd hk => ?_
    have ei : its[i]? = some v := by simpa using ei
    obtain ⟨m, m1, m2, m3⟩ := maxD_pr ps p
    rw [m2] at hrd
    obtain ⟨d, cs, ed, rd⟩ := readsAll_get hr i v ei
    rw [List.getElem?_map] at ed
    obtain ⟨p', ep, rfl⟩ := Option.map_eq_some_iff.mp ed
    have rd' := PySem.W.reads_keeps hk rd
    have := reads_pr rfl rd' hrd
    subst this
    have hil : i < ws.length := by
      rw [rv.length]
      exact (List.getElem?_eq_some_iff.mp ei).1
    have ew : ws[i]? = some ws[i] := List.getElem?_eq_getElem hil
    obtain ⟨u, eu, rw'⟩ := rv.get ew
    rw [ei] at eu
    cases eu
    exact ⟨ws[i], H, I.kept hk, rw', q i ws[i] p' ew ep m3⟩
theorem dpAll_pr {K : PySem.W.Frag} {wd : Wd} {H : Hp} (hB : Ex wd.B H) : ∀ (ps : List (Int × Int)) (vs : List V), RpL K wd (ps.map prI) vs → DpAll K H vs (ps.map prP)
  | [], vs, h => by rw [show vs = [] from h]; exact .nil
  | p :: ps, vs, h => by
    obtain ⟨v, r, rfl, hv, hr⟩ := h
    refine .cons ?_ (dpAll_pr hB ps r hr)
    obtain ⟨a, xs, rfl, ha, ⟨v1, r1, rfl, h1, ⟨v2, r2, rfl, h2, h3⟩⟩⟩ := hv
    rw [show v1 = .int p.1 from h1, show v2 = .int p.2 from h2, show r2 = [] from h3] at ha
    exact .tup (SqT.of (hB _ _ ha)) (.cons (.int _) (.cons (.int _) .nil))
theorem refn_maxP {X : Cx} : RefN X.K (rMaxP X.K) sMaxP := by
  intro wd F cs H ds vs P PX Q R r hs q
  obtain ⟨x, ps, rfl, ex, h0, hP⟩ := hs
  obtain ⟨v, ev, rv⟩ := r.one
  obtain ⟨a, ws, e2, s, r2⟩ := R.getL rv ex
  refine ⟨a, ws, ps, by rw [ev, e2], SqL.of s, dpAll_pr R.b ps ws r2, h0, fun i w m h1 h2 h3 => ?_⟩
  obtain ⟨w', e', r'⟩ := r2.get (i := i) (d := prI m) (by rw [List.getElem?_map, h2]; rfl)
  cases e'.symm.trans h1
  exact q wd (prI m) cs _ H (Wd.le.refl _) R r' (hP m (List.mem_of_getElem? h2) h3)
section
variable {X : Cx} {W : WX} {a : Expr} {p pos : Pos} {ca : E}
theorem j_maxP (hc : X.calm = true) (hu : X.A.units + 64 < cLine) (hg : Gl X "max") (hm : X.mg "max" = none) (ha : JE X W a ca) (h1 : starEach [a] X.env = (false, eval a X.env) :: starEach [] X.env := by rfl) : JE X W (.Call (.Name "max" p) [a] [] pos) (.app sMaxP (.cons ca .nil)) :=
  j_bltn (cr_maxP hc hu) refn_maxP hg hm boot_maxG (ja_cons ha ja_nil h1) (he := h1) (hpl := rfl)
end
end G

namespace G
def c_fresh_nodes_1 : S := (.asg (.nm 3) (.app sListM .nil))
def c_fresh_nodes_2 : S := (.exp (.meth chkL sAppend (.v 3) (.cons (.v 1) .nil)))
def c_fresh_nodes_3 : S := (.asg (.nm 1) (.app sIx (.cons (.v 0) (.cons (.v 1) .nil))))
def c_fresh_nodes_4 : S := (.whl (.and (.app sNe (.cons (.app sIx (.cons (.v 0) (.cons (.app sIx (.cons (.v 0) (.cons (.v 1) .nil))) .nil))) (.cons (.app sIx (.cons (.v 0) (.cons (.v 1) .nil))) .nil))) (.app sNotIn (.cons (.v 1) (.cons (.v 2) .nil)))) (.seq (c_fresh_nodes_2) (c_fresh_nodes_3)))
def c_fresh_nodes_5 : S := (.ret (.v 3))
def c_fresh_nodes : S := (.seq (c_fresh_nodes_1) (.seq (c_fresh_nodes_4) (.seq (.frz 3) (c_fresh_nodes_5))))
def c_most_total_1 (p_check_times : G.Spec) (p_fresh_nodes : G.Spec) : S := (.exp (.app p_check_times (.cons (.v 1) .nil)))
def c_most_total_2 (p_check_times : G.Spec) (p_fresh_nodes : G.Spec) : S := (.ret (.c (.int 0)))
def c_most_total_3 (p_check_times : G.Spec) (p_fresh_nodes : G.Spec) : S := (.ite (.app sAll (.cons (.comp false [7, 8] (.tup (.cons (.nm 7) (.cons (.nm 8) .nil))) iEnum (.cons (.v 0) .nil) (.c (.bl true)) (.app sEq (.cons (.v 8) (.cons (.v 7) .nil)))) .nil)) (c_most_total_2 p_check_times p_fresh_nodes) .skip)
def c_most_total_4 (p_check_times : G.Spec) (p_fresh_nodes : G.Spec) : S := (.asg (.tup (.cons (.nm 2) (.cons (.nm 3) .nil))) (.app sTup (.cons (.app sList .nil) (.cons (.c (.int 0)) .nil))))
def c_most_total_5 (p_check_times : G.Spec) (p_fresh_nodes : G.Spec) : S := (.asg (.nm 5) (.comp false [7] (.nm 7) iRng1 (.cons (.app sLen (.cons (.v 0) .nil)) .nil) (.c (.bl true)) (.app sTup (.cons (.app sLen (.cons (.app p_fresh_nodes (.cons (.v 0) (.cons (.v 7) (.cons (.v 2) .nil)))) .nil)) (.cons (.app sNeg (.cons (.v 7) .nil)) .nil)))))
def c_most_total_6 (p_check_times : G.Spec) (p_fresh_nodes : G.Spec) : S := (.asg (.nm 6) (.app sMaxP (.cons (.v 5) .nil)))
def c_most_total_7 (p_check_times : G.Spec) (p_fresh_nodes : G.Spec) : S := (.asg (.nm 3) (.app sIAdd (.cons (.v 3) (.cons (.app sIx (.cons (.v 6) (.cons (.c (.int 0)) .nil))) .nil))))
def c_most_total_8 (p_check_times : G.Spec) (p_fresh_nodes : G.Spec) : S := (.asg (.nm 2) (.app sAdd (.cons (.v 2) (.cons (.app p_fresh_nodes (.cons (.v 0) (.cons (.app sNeg (.cons (.app sIx (.cons (.v 6) (.cons (.c (.int 1)) .nil))) .nil)) (.cons (.v 2) .nil)))) .nil))))
def c_most_total_9 (p_check_times : G.Spec) (p_fresh_nodes : G.Spec) : S := (.fr (.nm 4) iRng1 (.cons (.v 1) .nil) (.seq (c_most_total_5 p_check_times p_fresh_nodes) (.seq (c_most_total_6 p_check_times p_fresh_nodes) (.seq (c_most_total_7 p_check_times p_fresh_nodes) (c_most_total_8 p_check_times p_fresh_nodes)))))
def c_most_total_10 (p_check_times : G.Spec) (p_fresh_nodes : G.Spec) : S := (.ret (.app sAdd (.cons (.v 1) (.cons (.v 3) .nil))))
def c_most_total (p_check_times : G.Spec) (p_fresh_nodes : G.Spec) : S := (.seq (c_most_total_1 p_check_times p_fresh_nodes) (.seq (c_most_total_3 p_check_times p_fresh_nodes) (.seq (c_most_total_4 p_check_times p_fresh_nodes) (.seq (c_most_total_9 p_check_times p_fresh_nodes) (c_most_total_10 p_check_times p_fresh_nodes)))))
end G

namespace K41
open PySem L2 G
def top (i : Nat) : Stmt := PySem.Challenge.pw_findforests_k41_whole_greatest_total_cos.main.body.getD i (.Pass ⟨0, 0, 0, 0⟩)
abbrev s_roots_of : Stmt := top 4
abbrev N_roots_of : List Str := ["forest", "node", "above"]
theorem sc_roots_of : FnScope N_roots_of ["forest"] (defScope s_roots_of) := ⟨rfl, rfl, rfl, by decide +kernel, rfl, by decide +kernel, by decide +kernel⟩
theorem js_roots_of {P : Program} {w : World} {K : PySem.W.Frag} {mg : Str → Option Value} {base : Heap} {k : Nat} (n_enumerate : mg "enumerate" = none) {f : Addr} {cdv : Value} {A : Around} {outer : List Env} {s : Shared} {H : Hp} {E : XK}
    (C : Ct (cxOf (L2N.CX P w) P w K mg base N_roots_of "roots_of" (defScope s_roots_of) f cdv A outer s H E) (wxOf E) k) :
    JSs (cxOf (L2N.CX P w) P w K mg base N_roots_of "roots_of" (defScope s_roots_of) f cdv A outer s H E) (wxOf E) (defBody s_roots_of) (c_roots_of) :=
  (jss_one (js_ret (j_comp false (own := [("node", 1), ("above", 2)]) rfl C.hN (ji_enum (by rfl) n_enumerate (j_v 0)) (blkOk_by (N := N_roots_of) (sc := defScope s_roots_of) (own := [("node", 1), ("above", 2)]) (by decide +kernel)) (fun _ _ _ _ _ => (jg_tup rfl (jgs_cons (jg_nm 1 C.hN rfl (by first | exact Or.inl rfl | exact Or.inr rfl) (by decide)) (jgs_cons (jg_nm 2 C.hN rfl (by first | exact Or.inl rfl | exact Or.inr rfl) (by decide)) jgs_nil)))) (fun _ _ _ _ _ => (jts_one (jt_eq C.hu (j_v 2) (j_v 1)))) (fun _ _ _ _ _ => (j_v 1)))))
abbrev s_check_times : Stmt := top 7
abbrev N_check_times : List Str := ["times"]
theorem sc_check_times : FnScope N_check_times ["times"] (defScope s_check_times) := ⟨rfl, rfl, rfl, by decide +kernel, rfl, by decide +kernel, by decide +kernel⟩
theorem js_check_times {P : Program} {w : World} {K : PySem.W.Frag} {mg : Str → Option Value} {base : Heap} {k : Nat} (m_MAX_TIMES : ∃ t, mg "MAX_TIMES" = some (.int 20 t)) {f : Addr} {cdv : Value} {A : Around} {outer : List Env} {s : Shared} {H : Hp} {E : XK}
    (C : Ct (cxOf (L2N.CX P w) P w K mg base N_check_times "check_times" (defScope s_check_times) f cdv A outer s H E) (wxOf E) k) :
    JSs (cxOf (L2N.CX P w) P w K mg base N_check_times "check_times" (defScope s_check_times) f cdv A outer s H E) (wxOf E) (defBody s_check_times) (c_check_times) :=
  (jss_one (js_if (jt_not (jt_chLeLe j_int (j_v 0) (j_gint (by rfl) m_MAX_TIMES))) (jss_one js_stuck) jss_nil))
abbrev s_most_total : Stmt := top 8
abbrev N_most_total : List Str := ["forest", "times", "marked", "gained", "step", "gains", "best", "node", "above"]
theorem sc_most_total : FnScope N_most_total ["forest", "times"] (defScope s_most_total) := ⟨rfl, rfl, rfl, by decide +kernel, rfl, by decide +kernel, by decide +kernel⟩
theorem js_most_total {P : Program} {w : World} {K : PySem.W.Frag} {mg : Str → Option Value} {base : Heap} {k : Nat} (n_all : mg "all" = none) (n_enumerate : mg "enumerate" = none) (n_len : mg "len" = none) (n_max : mg "max" = none) (n_range : mg "range" = none) {p_check_times : G.Spec} {k_check_times n_check_times : Nat} (F_check_times : Fn P w K mg base "check_times" k_check_times n_check_times p_check_times) (l_check_times : k_check_times ≤ k) {p_fresh_nodes : G.Spec} {k_fresh_nodes n_fresh_nodes : Nat} (F_fresh_nodes : Fn P w K mg base "fresh_nodes" k_fresh_nodes n_fresh_nodes p_fresh_nodes) (l_fresh_nodes : k_fresh_nodes ≤ k) {f : Addr} {cdv : Value} {A : Around} {outer : List Env} {s : Shared} {H : Hp} {E : XK}
    (C : Ct (cxOf (L2N.CX P w) P w K mg base N_most_total "most_total" (defScope s_most_total) f cdv A outer s H E) (wxOf E) k) :
    JSs (cxOf (L2N.CX P w) P w K mg base N_most_total "most_total" (defScope s_most_total) f cdv A outer s H E) (wxOf E) (defBody s_most_total) (c_most_total p_check_times p_fresh_nodes) :=
  (jss_cons (js_exp (j_call F_check_times (C.hr.mono l_check_times) C.tk (by rfl) (ja_cons (j_v 1) ja_nil)))
  (jss_cons (js_if (jt_val (j_all rfl (by rfl) n_all (j_comp false (own := [("node", 7), ("above", 8)]) rfl C.hN (ji_enum (by rfl) n_enumerate (j_v 0)) (blkOk_by (N := N_most_total) (sc := defScope s_most_total) (own := [("node", 7), ("above", 8)]) (by decide +kernel)) (fun _ _ _ _ _ => (jg_tup rfl (jgs_cons (jg_nm 7 C.hN rfl (by first | exact Or.inl rfl | exact Or.inr rfl) (by decide)) (jgs_cons (jg_nm 8 C.hN rfl (by first | exact Or.inl rfl | exact Or.inr rfl) (by decide)) jgs_nil)))) (fun _ _ _ _ _ => jts_nil) (fun _ _ _ _ _ => (j_eq C.hu (j_v 8) (j_v 7)))))) (jss_one (js_ret j_int)) jss_nil)
  (jss_cons (js_asg (own := [2, 3]) (j_tup (ja_cons (j_list (k := 0) ja_nil) (ja_cons j_int ja_nil))) (jg_tup rfl (jgs_cons (jg_nm 2 C.hN rfl (by first | exact Or.inl rfl | exact Or.inr rfl) (by decide)) (jgs_cons (jg_nm 3 C.hN rfl (by first | exact Or.inl rfl | exact Or.inr rfl) (by decide)) jgs_nil))))
  (jss_cons (js_for (own := [4]) C.hp rfl (ji_rng1 (by rfl) n_range (j_v 1)) (jg_nm 4 C.hN rfl (by first | exact Or.inl rfl | exact Or.inr rfl) (by decide)) (jss_cons (js_setc 5 false (own := [("node", 7)]) rfl C.hN rfl rfl (sw_true rfl rfl rfl (by decide +kernel)) (ji_rng1 (by rfl) n_range (j_len (by rfl) n_len (j_v 0))) (blkOk_by (N := N_most_total) (sc := defScope s_most_total) (own := [("node", 7)]) (by decide +kernel)) (fun _ _ _ _ _ => (jg_nm 7 C.hN rfl (by first | exact Or.inl rfl | exact Or.inr rfl) (by decide))) (fun _ _ _ _ _ => jts_nil) (fun _ _ _ _ _ => (j_tup (ja_cons (j_len (by rfl) n_len (j_call F_fresh_nodes (C.hr.mono l_fresh_nodes) takesN (by rfl) (ja_cons (j_v 0) (ja_cons (j_v 7) (ja_cons (j_v 2) ja_nil))))) (ja_cons (j_neg (j_v 7)) ja_nil)))))
  (jss_cons (js_set 6 C.hN rfl (by first | exact Or.inl rfl | exact Or.inr rfl) (j_maxP rfl C.hu (by rfl) n_max (j_v 5)))
  (jss_cons (js_augAdd 3 C.hN rfl (by first | exact Or.inl rfl | exact Or.inr rfl) (j_ix (j_v 6) j_int))
  (jss_one (js_set 2 C.hN rfl (by first | exact Or.inl rfl | exact Or.inr rfl) (j_add (j_v 2) (j_call F_fresh_nodes (C.hr.mono l_fresh_nodes) C.tk (by rfl) (ja_cons (j_v 0) (ja_cons (j_neg (j_ix (j_v 6) j_int)) (ja_cons (j_v 2) ja_nil)))))))))))
  (jss_one (js_ret (j_add (j_v 1) (j_v 3))))))))
abbrev s_fresh_nodes : Stmt := top 9
abbrev N_fresh_nodes : List Str := ["forest", "node", "marked", "result"]
theorem sc_fresh_nodes : FnScope N_fresh_nodes ["forest", "node", "marked"] (defScope s_fresh_nodes) := ⟨rfl, rfl, rfl, by decide +kernel, rfl, by decide +kernel, by decide +kernel⟩
theorem js_fresh_nodes {P : Program} {w : World} {K : PySem.W.Frag} {mg : Str → Option Value} {base : Heap} {k : Nat} {f : Addr} {cdv : Value} {A : Around} {outer : List Env} {s : Shared} {H : Hp} {E : XK}
    (C : Ct (cxOf (L2N.CX P w) P w K mg base N_fresh_nodes "fresh_nodes" (defScope s_fresh_nodes) f cdv A outer s H E) (wxOf E) k) :
    JSs (cxOf (L2N.CX P w) P w K mg base N_fresh_nodes "fresh_nodes" (defScope s_fresh_nodes) f cdv A outer s H E) (wxOf E) (defBody s_fresh_nodes) (c_fresh_nodes) :=
  (jss_cons (js_set 3 C.hN rfl (by first | exact Or.inl rfl | exact Or.inr rfl) (j_listM ja_nil))
  (jss_cons (js_while C.hp (jt_w (jw_and (jt_ne C.hu (j_ix (j_v 0) (j_ix (j_v 0) (j_v 1))) (j_ix (j_v 0) (j_v 1))) (jw_and1 (jt_notIn (j_v 1) (j_v 2))))) (jss_cons (js_exp (j_append (j_v 3) (j_v 1)))
  (jss_one (js_set 1 C.hN rfl (by first | exact Or.inl rfl | exact Or.inr rfl) (j_ix (j_v 0) (j_v 1))))))
  (jss_frz 3 (jss_one (js_ret (j_v 3))))))
abbrev s__law_start : Stmt := top 11
abbrev N__law_start : List Str := ["_law_script"]
theorem sc__law_start : FnScope N__law_start ["_law_script"] (defScope s__law_start) := ⟨rfl, rfl, rfl, by decide +kernel, rfl, by decide +kernel, by decide +kernel⟩
theorem js__law_start {P : Program} {w : World} {K : PySem.W.Frag} {mg : Str → Option Value} {base : Heap} {k : Nat} (n_len : mg "len" = none) (n_list : mg "list" = none) {f : Addr} {cdv : Value} {A : Around} {outer : List Env} {s : Shared} {H : Hp} {E : XK}
    (C : Ct (cxOf (L2N.CX P w) P w K mg base N__law_start "_law_start" (defScope s__law_start) f cdv A outer s H E) (wxOf E) k) :
    JSs (cxOf (L2N.CX P w) P w K mg base N__law_start "_law_start" (defScope s__law_start) f cdv A outer s H E) (wxOf E) (defBody s__law_start) (c_start) :=
  (jss_one (js_ret (j_listM (ja_cons (j_listOf (by rfl) n_list (j_cutScr (j_v 0))) (ja_cons j_int (ja_cons j_int (ja_cons (j_add j_int (j_mul j_int (j_len (by rfl) n_len (j_cutScr (j_v 0))))) ja_nil)))))))
abbrev s__law_take : Stmt := top 12
abbrev N__law_take : List Str := ["_law_draw", "_law_many", "_law_cell", "_law_digit", "_law_square"]
theorem sc__law_take : FnScope N__law_take ["_law_draw", "_law_many"] (defScope s__law_take) := ⟨rfl, rfl, rfl, by decide +kernel, rfl, by decide +kernel, by decide +kernel⟩
theorem js__law_take {P : Program} {w : World} {K : PySem.W.Frag} {mg : Str → Option Value} {base : Heap} {k : Nat} (n_len : mg "len" = none) {f : Addr} {cdv : Value} {A : Around} {outer : List Env} {s : Shared} {H : Hp} {E : XK}
    (C : Ct (cxOf (L2N.CX P w) P w K mg base N__law_take "_law_take" (defScope s__law_take) f cdv A outer s H E) (wxOf E) k) :
    JSs (cxOf (L2N.CX P w) P w K mg base N__law_take "_law_take" (defScope s__law_take) f cdv A outer s H E) (wxOf E) (defBody s__law_take) (c_take) :=
  (jss_cons (js_if (jt_w (jw_and (jt_lt (j_ix (j_v 0) j_int) (j_v 1)) (jw_and1 (jt_lt (j_ix (j_v 0) j_int) (j_len (by rfl) n_len (j_ix (j_v 0) j_int)))))) (jss_cons (js_set 2 C.hN rfl (by first | exact Or.inl rfl | exact Or.inr rfl) (j_ix (j_ix (j_v 0) j_int) (j_ix (j_v 0) j_int)))
  (jss_cons (js_setIx (j_add (j_ix (j_v 0) j_int) j_int) (j_v 0) j_int)
  (jss_cons (js_setIx j_int (j_v 0) j_int)
  (jss_cons (js_if (jt_ge (j_v 2) (j_pow j_int j_int)) (jss_one (js_setIx (j_v 2) (j_v 0) j_int)) jss_nil)
  (jss_one (js_setIx (j_mod (j_add (j_add (j_mul (j_ix (j_v 0) j_int) j_int) (j_mul (j_mod (j_v 2) j_int) j_int)) (j_ix (j_v 0) j_int)) j_int) (j_v 0) j_int)))))) jss_nil)
  (jss_cons (js_if (jt_ge (j_ix (j_v 0) j_int) (j_v 1)) (jss_cons (js_set 3 C.hN rfl (by first | exact Or.inl rfl | exact Or.inr rfl) (j_mod (j_ix (j_v 0) j_int) (j_v 1)))
  (jss_cons (js_setIx (j_div (j_ix (j_v 0) j_int) (j_v 1)) (j_v 0) j_int)
  (jss_one (js_ret (j_v 3))))) jss_nil)
  (jss_cons (js_set 4 C.hN rfl (by first | exact Or.inl rfl | exact Or.inr rfl) (j_mod (j_mul (j_ix (j_v 0) j_int) (j_ix (j_v 0) j_int)) j_int))
  (jss_cons (js_setIx (j_mod (j_add (j_add (j_mul (j_v 4) j_int) (j_mul (j_ix (j_v 0) j_int) j_int)) j_int) j_int) (j_v 0) j_int)
  (jss_one (js_ret (j_mod (j_div (j_ix (j_v 0) j_int) j_int) (j_v 1))))))))
abbrev s__law_of : Stmt := top 13
abbrev N__law_of : List Str := ["_law_draw", "_law_some"]
theorem sc__law_of : FnScope N__law_of ["_law_draw", "_law_some"] (defScope s__law_of) := ⟨rfl, rfl, rfl, by decide +kernel, rfl, by decide +kernel, by decide +kernel⟩
theorem js__law_of {P : Program} {w : World} {K : PySem.W.Frag} {mg : Str → Option Value} {base : Heap} {k : Nat} (n_len : mg "len" = none) {p__law_take : G.Spec} {k__law_take n__law_take : Nat} (F__law_take : Fn P w K mg base "_law_take" k__law_take n__law_take p__law_take) (l__law_take : k__law_take ≤ k) {f : Addr} {cdv : Value} {A : Around} {outer : List Env} {s : Shared} {H : Hp} {E : XK}
    (C : Ct (cxOf (L2N.CX P w) P w K mg base N__law_of "_law_of" (defScope s__law_of) f cdv A outer s H E) (wxOf E) k) :
    JSs (cxOf (L2N.CX P w) P w K mg base N__law_of "_law_of" (defScope s__law_of) f cdv A outer s H E) (wxOf E) (defBody s__law_of) (c_of p__law_take) :=
  (jss_one (js_ret (j_ix (j_v 1) (j_call F__law_take (C.hr.mono l__law_take) C.tk (by rfl) (ja_cons (j_v 0) (ja_cons (j_len (by rfl) n_len (j_v 1)) ja_nil))))))
abbrev s__law_shuffled : Stmt := top 14
abbrev N__law_shuffled : List Str := ["_law_draw", "_law_some", "_law_found_here", "_law_one"]
theorem sc__law_shuffled : FnScope N__law_shuffled ["_law_draw", "_law_some"] (defScope s__law_shuffled) := ⟨rfl, rfl, rfl, by decide +kernel, rfl, by decide +kernel, by decide +kernel⟩
theorem js__law_shuffled {P : Program} {w : World} {K : PySem.W.Frag} {mg : Str → Option Value} {base : Heap} {k : Nat} (n_len : mg "len" = none) {p__law_take : G.Spec} {k__law_take n__law_take : Nat} (F__law_take : Fn P w K mg base "_law_take" k__law_take n__law_take p__law_take) (l__law_take : k__law_take ≤ k) {f : Addr} {cdv : Value} {A : Around} {outer : List Env} {s : Shared} {H : Hp} {E : XK}
    (C : Ct (cxOf (L2N.CX P w) P w K mg base N__law_shuffled "_law_shuffled" (defScope s__law_shuffled) f cdv A outer s H E) (wxOf E) k) :
    JSs (cxOf (L2N.CX P w) P w K mg base N__law_shuffled "_law_shuffled" (defScope s__law_shuffled) f cdv A outer s H E) (wxOf E) (defBody s__law_shuffled) (c_l_shuffled p__law_take) :=
  (jss_cons (js_set 2 C.hN rfl (by first | exact Or.inl rfl | exact Or.inr rfl) (j_listM ja_nil))
  (jss_cons (js_for (own := [3]) C.hp rfl (ji_seq (j_v 1)) (jg_nm 3 C.hN rfl (by first | exact Or.inl rfl | exact Or.inr rfl) (by decide)) (jss_one (js_exp (j_insert (j_v 2) (j_call F__law_take (C.hr.mono l__law_take) C.tk (by rfl) (ja_cons (j_v 0) (ja_cons (j_add (j_len (by rfl) n_len (j_v 2)) j_int) ja_nil))) (j_v 3)))))
  (jss_frz 2 (jss_one (js_ret (j_v 2))))))
abbrev s__law_same : Stmt := top 15
abbrev N__law_same : List Str := ["_law_found_here", "_law_due", "_law_one", "_law_other"]
theorem sc__law_same : FnScope N__law_same ["_law_found_here", "_law_due"] (defScope s__law_same) := ⟨rfl, rfl, rfl, by decide +kernel, rfl, by decide +kernel, by decide +kernel⟩
theorem js__law_same {P : Program} {w : World} {K : PySem.W.Frag} {mg : Str → Option Value} {base : Heap} {k : Nat} (n_all : mg "all" = none) (n_bool : mg "bool" = none) (n_int : mg "int" = none) (n_isinstance : mg "isinstance" = none) (n_len : mg "len" = none) (n_list : mg "list" = none) (n_str : mg "str" = none) (n_tuple : mg "tuple" = none) (n_zip : mg "zip" = none) {p__law_same : G.Spec} {k__law_same n__law_same : Nat} (F__law_same : Fn P w K mg base "_law_same" k__law_same n__law_same p__law_same) (l__law_same : k__law_same ≤ k) {f : Addr} {cdv : Value} {A : Around} {outer : List Env} {s : Shared} {H : Hp} {E : XK}
    (C : Ct (cxOf (L2N.CX P w) P w K mg base N__law_same "_law_same" (defScope s__law_same) f cdv A outer s H E) (wxOf E) k) :
    JSs (cxOf (L2N.CX P w) P w K mg base N__law_same "_law_same" (defScope s__law_same) f cdv A outer s H E) (wxOf E) (defBody s__law_same) (c_same p__law_same) :=
  (jss_cons (js_if (jt_isN (j_v 1) j_non) (jss_one (js_ret (j_isN (j_v 0) j_non))) jss_nil)
  (jss_cons (js_if (jt_val (j_isi2 (t := .list) (t' := .tuple) (by rfl) n_isinstance (by rfl) n_list boot_listG (by rfl) n_tuple boot_tupleG (j_v 1))) (jss_cons (js_if (jt_w (jw_or (jt_ne C.hu (j_isi (t := .list) (by rfl) n_isinstance (by rfl) n_list boot_listG (j_v 0)) (j_isi (t := .list) (by rfl) n_isinstance (by rfl) n_list boot_listG (j_v 1))) (jw_or1 (jt_ne C.hu (j_isi (t := .tuple) (by rfl) n_isinstance (by rfl) n_tuple boot_tupleG (j_v 0)) (j_isi (t := .tuple) (by rfl) n_isinstance (by rfl) n_tuple boot_tupleG (j_v 1)))))) (jss_one (js_ret j_bl)) jss_nil)
  (jss_one (js_ret (je_and (j_eq C.hu (j_len (by rfl) n_len (j_v 0)) (j_len (by rfl) n_len (j_v 1))) (je_one (j_all rfl (by rfl) n_all (j_comp false (own := [("_law_one", 2), ("_law_other", 3)]) rfl C.hN (ji_zip (by rfl) n_zip (j_v 0) (j_v 1)) (blkOk_by (N := N__law_same) (sc := defScope s__law_same) (own := [("_law_one", 2), ("_law_other", 3)]) (by decide +kernel)) (fun _ _ _ _ _ => (jg_tup rfl (jgs_cons (jg_nm 2 C.hN rfl (by first | exact Or.inl rfl | exact Or.inr rfl) (by decide)) (jgs_cons (jg_nm 3 C.hN rfl (by first | exact Or.inl rfl | exact Or.inr rfl) (by decide)) jgs_nil)))) (fun _ _ _ _ _ => jts_nil) (fun _ _ _ _ _ => (j_call F__law_same (C.hr.mono l__law_same) takesN (by rfl) (ja_cons (j_v 2) (ja_cons (j_v 3) ja_nil))))))))))) jss_nil)
  (jss_cons (js_if (jt_w (jw_or (jt_ne C.hu (j_isi (t := .bool) (by rfl) n_isinstance (by rfl) n_bool boot_boolG (j_v 1)) (j_isi (t := .bool) (by rfl) n_isinstance (by rfl) n_bool boot_boolG (j_v 0))) (jw_or1 (jt_ne C.hu (j_isi (t := .int) (by rfl) n_isinstance (by rfl) n_int boot_intG (j_v 1)) (j_isi (t := .int) (by rfl) n_isinstance (by rfl) n_int boot_intG (j_v 0)))))) (jss_one (js_ret j_bl)) jss_nil)
  (jss_one (js_ret (je_and (j_eq C.hu (j_isi (t := .str) (by rfl) n_isinstance (by rfl) n_str boot_strG (j_v 1)) (j_isi (t := .str) (by rfl) n_isinstance (by rfl) n_str boot_strG (j_v 0))) (je_one (j_eq C.hu (j_v 0) (j_v 1)))))))))
abbrev s__law_size : Stmt := top 16
abbrev N__law_size : List Str := ["_law_draw", "_law_most"]
theorem sc__law_size : FnScope N__law_size ["_law_draw", "_law_most"] (defScope s__law_size) := ⟨rfl, rfl, rfl, by decide +kernel, rfl, by decide +kernel, by decide +kernel⟩
theorem js__law_size {P : Program} {w : World} {K : PySem.W.Frag} {mg : Str → Option Value} {base : Heap} {k : Nat} (n_min : mg "min" = none) {p__law_of : G.Spec} {k__law_of n__law_of : Nat} (F__law_of : Fn P w K mg base "_law_of" k__law_of n__law_of p__law_of) (l__law_of : k__law_of ≤ k) {p__law_take : G.Spec} {k__law_take n__law_take : Nat} (F__law_take : Fn P w K mg base "_law_take" k__law_take n__law_take p__law_take) (l__law_take : k__law_take ≤ k) {f : Addr} {cdv : Value} {A : Around} {outer : List Env} {s : Shared} {H : Hp} {E : XK}
    (C : Ct (cxOf (L2N.CX P w) P w K mg base N__law_size "_law_size" (defScope s__law_size) f cdv A outer s H E) (wxOf E) k) :
    JSs (cxOf (L2N.CX P w) P w K mg base N__law_size "_law_size" (defScope s__law_size) f cdv A outer s H E) (wxOf E) (defBody s__law_size) (c_l_size p__law_of p__law_take) :=
  (jss_one (js_ret (j_call F__law_of (C.hr.mono l__law_of) C.tk (by rfl) (ja_cons (j_v 0) (ja_cons (j_list (k := 0) (ja_cons (j_call F__law_take (C.hr.mono l__law_take) C.tk (by rfl) (ja_cons (j_v 0) (ja_cons (j_add (j_v 1) j_int) ja_nil))) (ja_cons (j_min2 rfl (by rfl) n_min (j_v 1) (j_call F__law_take (C.hr.mono l__law_take) C.tk (by rfl) (ja_cons (j_v 0) (ja_cons j_int ja_nil)))) (ja_cons (j_min2 rfl (by rfl) n_min (j_v 1) j_int) ja_nil)))) ja_nil)))))
abbrev s__law_path : Stmt := top 17
abbrev N__law_path : List Str := ["_law_forest_in", "_law_node", "_law_found_here", "_law_step"]
theorem sc__law_path : FnScope N__law_path ["_law_forest_in", "_law_node"] (defScope s__law_path) := ⟨rfl, rfl, rfl, by decide +kernel, rfl, by decide +kernel, by decide +kernel⟩
theorem js__law_path {P : Program} {w : World} {K : PySem.W.Frag} {mg : Str → Option Value} {base : Heap} {k : Nat} (n_len : mg "len" = none) (n_range : mg "range" = none) {f : Addr} {cdv : Value} {A : Around} {outer : List Env} {s : Shared} {H : Hp} {E : XK}
    (C : Ct (cxOf (L2N.CX P w) P w K mg base N__law_path "_law_path" (defScope s__law_path) f cdv A outer s H E) (wxOf E) k) :
    JSs (cxOf (L2N.CX P w) P w K mg base N__law_path "_law_path" (defScope s__law_path) f cdv A outer s H E) (wxOf E) (defBody s__law_path) (c_l_path) :=
  (jss_cons (js_set 2 C.hN rfl (by first | exact Or.inl rfl | exact Or.inr rfl) (j_listM (ja_cons (j_v 1) ja_nil)))
  (jss_cons (js_for (own := [3]) C.hp rfl (ji_rng1 (by rfl) n_range (j_len (by rfl) n_len (j_v 0))) (jg_nm 3 C.hN rfl (by first | exact Or.inl rfl | exact Or.inr rfl) (by decide)) (jss_one (js_if (jt_ne C.hu (j_ix (j_v 0) (j_ix (j_v 2) (j_neg j_int))) (j_ix (j_v 2) (j_neg j_int))) (jss_one (js_exp (j_append (j_v 2) (j_ix (j_v 0) (j_ix (j_v 2) (j_neg j_int)))))) jss_nil)))
  (jss_frz 2 (jss_one (js_ret (j_v 2))))))
abbrev s__law_root : Stmt := top 18
abbrev N__law_root : List Str := ["_law_forest_in", "_law_node"]
theorem sc__law_root : FnScope N__law_root ["_law_forest_in", "_law_node"] (defScope s__law_root) := ⟨rfl, rfl, rfl, by decide +kernel, rfl, by decide +kernel, by decide +kernel⟩
theorem js__law_root {P : Program} {w : World} {K : PySem.W.Frag} {mg : Str → Option Value} {base : Heap} {k : Nat} {p__law_path : G.Spec} {k__law_path n__law_path : Nat} (F__law_path : Fn P w K mg base "_law_path" k__law_path n__law_path p__law_path) (l__law_path : k__law_path ≤ k) {f : Addr} {cdv : Value} {A : Around} {outer : List Env} {s : Shared} {H : Hp} {E : XK}
    (C : Ct (cxOf (L2N.CX P w) P w K mg base N__law_root "_law_root" (defScope s__law_root) f cdv A outer s H E) (wxOf E) k) :
    JSs (cxOf (L2N.CX P w) P w K mg base N__law_root "_law_root" (defScope s__law_root) f cdv A outer s H E) (wxOf E) (defBody s__law_root) (c_l_root p__law_path) :=
  (jss_one (js_ret (j_ix (j_call F__law_path (C.hr.mono l__law_path) C.tk (by rfl) (ja_cons (j_v 0) (ja_cons (j_v 1) ja_nil))) (j_neg j_int))))
abbrev s__law_renamed : Stmt := top 19
abbrev N__law_renamed : List Str := ["_law_draw", "_law_parents", "_law_names", "_law_found_here", "_law_node"]
theorem sc__law_renamed : FnScope N__law_renamed ["_law_draw", "_law_parents"] (defScope s__law_renamed) := ⟨rfl, rfl, rfl, by decide +kernel, rfl, by decide +kernel, by decide +kernel⟩
theorem js__law_renamed {P : Program} {w : World} {K : PySem.W.Frag} {mg : Str → Option Value} {base : Heap} {k : Nat} (n_len : mg "len" = none) (n_list : mg "list" = none) (n_range : mg "range" = none) (n_tuple : mg "tuple" = none) {p__law_shuffled : G.Spec} {k__law_shuffled n__law_shuffled : Nat} (F__law_shuffled : Fn P w K mg base "_law_shuffled" k__law_shuffled n__law_shuffled p__law_shuffled) (l__law_shuffled : k__law_shuffled ≤ k) {f : Addr} {cdv : Value} {A : Around} {outer : List Env} {s : Shared} {H : Hp} {E : XK}
    (C : Ct (cxOf (L2N.CX P w) P w K mg base N__law_renamed "_law_renamed" (defScope s__law_renamed) f cdv A outer s H E) (wxOf E) k) :
    JSs (cxOf (L2N.CX P w) P w K mg base N__law_renamed "_law_renamed" (defScope s__law_renamed) f cdv A outer s H E) (wxOf E) (defBody s__law_renamed) (c_l_renamed p__law_shuffled) :=
  (jss_cons (js_set 2 C.hN rfl (by first | exact Or.inl rfl | exact Or.inr rfl) (j_call F__law_shuffled (C.hr.mono l__law_shuffled) C.tk (by rfl) (ja_cons (j_v 0) (ja_cons (j_listRg1 rfl (by rfl) n_list (by rfl) n_range (j_len (by rfl) n_len (j_v 1))) ja_nil))))
  (jss_cons (js_set 3 C.hN rfl (by first | exact Or.inl rfl | exact Or.inr rfl) (j_repM (j_list (k := 0) (ja_cons j_int ja_nil)) (j_len (by rfl) n_len (j_v 1))))
  (jss_cons (js_for (own := [4]) C.hp rfl (ji_rng1 (by rfl) n_range (j_len (by rfl) n_len (j_v 1))) (jg_nm 4 C.hN rfl (by first | exact Or.inl rfl | exact Or.inr rfl) (by decide)) (jss_one (js_setIx (j_ix (j_v 2) (j_ix (j_v 1) (j_v 4))) (j_v 3) (j_ix (j_v 2) (j_v 4)))))
  (jss_one (js_ret (j_tupOf (by rfl) n_tuple (j_v 3)))))))
abbrev s__law_forest : Stmt := top 20
abbrev N__law_forest : List Str := ["_law_draw", "_law_size_here", "_law_many", "_law_pick", "_law_parents", "_law_node", "_law_near", "_law_above"]
theorem sc__law_forest : FnScope N__law_forest ["_law_draw", "_law_size_here", "_law_many"] (defScope s__law_forest) := ⟨rfl, rfl, rfl, by decide +kernel, rfl, by decide +kernel, by decide +kernel⟩
theorem js__law_forest {P : Program} {w : World} {K : PySem.W.Frag} {mg : Str → Option Value} {base : Heap} {k : Nat} (n_max : mg "max" = none) (n_range : mg "range" = none) {p__law_renamed : G.Spec} {k__law_renamed n__law_renamed : Nat} (F__law_renamed : Fn P w K mg base "_law_renamed" k__law_renamed n__law_renamed p__law_renamed) (l__law_renamed : k__law_renamed ≤ k) {p__law_take : G.Spec} {k__law_take n__law_take : Nat} (F__law_take : Fn P w K mg base "_law_take" k__law_take n__law_take p__law_take) (l__law_take : k__law_take ≤ k) {f : Addr} {cdv : Value} {A : Around} {outer : List Env} {s : Shared} {H : Hp} {E : XK}
    (C : Ct (cxOf (L2N.CX P w) P w K mg base N__law_forest "_law_forest" (defScope s__law_forest) f cdv A outer s H E) (wxOf E) k) :
    JSs (cxOf (L2N.CX P w) P w K mg base N__law_forest "_law_forest" (defScope s__law_forest) f cdv A outer s H E) (wxOf E) (defBody s__law_forest) (c_l_forest p__law_renamed p__law_take) :=
  (jss_cons (js_par 3 4 rfl C.hN rfl rfl (by decide) rfl rfl (j_call F__law_take (C.hr.mono l__law_take) C.tk (by rfl) (ja_cons (j_v 0) (ja_cons j_int ja_nil))) (j_listM ja_nil) (by rfl))
  (jss_cons (js_for (own := [5]) C.hp rfl (ji_rng1 (by rfl) n_range (j_v 1)) (jg_nm 5 C.hN rfl (by first | exact Or.inl rfl | exact Or.inr rfl) (by decide)) (jss_cons (js_set 6 C.hN rfl (by first | exact Or.inl rfl | exact Or.inr rfl) (j_list (k := 0) (ja_cons (j_sub (j_v 5) j_int) (ja_cons j_int (ja_cons (j_max2 rfl (by rfl) n_max j_int (j_sub (j_v 5) j_int)) (ja_cons (j_max2 rfl (by rfl) n_max j_int (j_sub (j_sub (j_v 5) j_int) (j_mod (j_v 5) j_int))) ja_nil))))))
  (jss_cons (js_set 7 C.hN rfl (by first | exact Or.inl rfl | exact Or.inr rfl) (je_if (jt_lt (j_v 3) j_int) (j_ix (j_v 6) (j_v 3)) (j_call F__law_take (C.hr.mono l__law_take) C.tk (by rfl) (ja_cons (j_v 0) (ja_cons (j_max2 rfl (by rfl) n_max j_int (j_v 5)) ja_nil)))))
  (jss_cons (js_if (jt_eq C.hu (j_v 3) j_int) (jss_one (js_set 7 C.hN rfl (by first | exact Or.inl rfl | exact Or.inr rfl) (j_max2 rfl (by rfl) n_max j_int (j_sub (j_sub (j_v 5) j_int) (j_call F__law_take (C.hr.mono l__law_take) C.tk (by rfl) (ja_cons (j_v 0) (ja_cons j_int ja_nil))))))) jss_nil)
  (jss_cons (js_if (jt_w (jw_or (jt_eq C.hu (j_v 5) j_int) (jw_or1 (jt_w (jw_and (jt_lt (j_v 5) (j_v 2)) (jw_and1 (jt_eq C.hu (j_call F__law_take (C.hr.mono l__law_take) C.tk (by rfl) (ja_cons (j_v 0) (ja_cons j_int ja_nil))) j_int))))))) (jss_one (js_set 7 C.hN rfl (by first | exact Or.inl rfl | exact Or.inr rfl) (j_v 5))) jss_nil)
  (jss_one (js_exp (j_append (j_v 4) (j_v 7)))))))))
  (jss_one (js_ret (j_call F__law_renamed (C.hr.mono l__law_renamed) C.tk (by rfl) (ja_cons (j_v 0) (ja_cons (j_v 4) ja_nil)))))))
abbrev s__law_some_forest : Stmt := top 21
abbrev N__law_some_forest : List Str := ["_law_draw", "_law_most"]
theorem sc__law_some_forest : FnScope N__law_some_forest ["_law_draw", "_law_most"] (defScope s__law_some_forest) := ⟨rfl, rfl, rfl, by decide +kernel, rfl, by decide +kernel, by decide +kernel⟩
theorem js__law_some_forest {P : Program} {w : World} {K : PySem.W.Frag} {mg : Str → Option Value} {base : Heap} {k : Nat} {p__law_forest : G.Spec} {k__law_forest n__law_forest : Nat} (F__law_forest : Fn P w K mg base "_law_forest" k__law_forest n__law_forest p__law_forest) (l__law_forest : k__law_forest ≤ k) {p__law_size : G.Spec} {k__law_size n__law_size : Nat} (F__law_size : Fn P w K mg base "_law_size" k__law_size n__law_size p__law_size) (l__law_size : k__law_size ≤ k) {p__law_take : G.Spec} {k__law_take n__law_take : Nat} (F__law_take : Fn P w K mg base "_law_take" k__law_take n__law_take p__law_take) (l__law_take : k__law_take ≤ k) {f : Addr} {cdv : Value} {A : Around} {outer : List Env} {s : Shared} {H : Hp} {E : XK}
    (C : Ct (cxOf (L2N.CX P w) P w K mg base N__law_some_forest "_law_some_forest" (defScope s__law_some_forest) f cdv A outer s H E) (wxOf E) k) :
    JSs (cxOf (L2N.CX P w) P w K mg base N__law_some_forest "_law_some_forest" (defScope s__law_some_forest) f cdv A outer s H E) (wxOf E) (defBody s__law_some_forest) (c_l_some_forest p__law_forest p__law_size p__law_take) :=
  (jss_one (js_ret (j_call F__law_forest (C.hr.mono l__law_forest) C.tk (by rfl) (ja_cons (j_v 0) (ja_cons (j_call F__law_size (C.hr.mono l__law_size) C.tk (by rfl) (ja_cons (j_v 0) (ja_cons (j_v 1) ja_nil))) (ja_cons (j_add j_int (j_call F__law_take (C.hr.mono l__law_take) C.tk (by rfl) (ja_cons (j_v 0) (ja_cons j_int ja_nil)))) ja_nil))))))
abbrev s__law_find : Stmt := top 22
abbrev N__law_find : List Str := ["_law_forest_in", "_law_node", "_law_found_here", "_law_cost", "_law_here", "_law_root_here", "_law_step", "_law_above"]
theorem sc__law_find : FnScope N__law_find ["_law_forest_in", "_law_node"] (defScope s__law_find) := ⟨rfl, rfl, rfl, by decide +kernel, rfl, by decide +kernel, by decide +kernel⟩
theorem js__law_find {P : Program} {w : World} {K : PySem.W.Frag} {mg : Str → Option Value} {base : Heap} {k : Nat} (n_len : mg "len" = none) (n_list : mg "list" = none) (n_range : mg "range" = none) (n_tuple : mg "tuple" = none) {p__law_root : G.Spec} {k__law_root n__law_root : Nat} (F__law_root : Fn P w K mg base "_law_root" k__law_root n__law_root p__law_root) (l__law_root : k__law_root ≤ k) {f : Addr} {cdv : Value} {A : Around} {outer : List Env} {s : Shared} {H : Hp} {E : XK}
    (C : Ct (cxOf (L2N.CX P w) P w K mg base N__law_find "_law_find" (defScope s__law_find) f cdv A outer s H E) (wxOf E) k) :
    JSs (cxOf (L2N.CX P w) P w K mg base N__law_find "_law_find" (defScope s__law_find) f cdv A outer s H E) (wxOf E) (defBody s__law_find) (c_l_find p__law_root) :=
  (jss_cons (js_par3 2 3 4 rfl C.hN rfl rfl rfl (by decide) (by decide) (by decide) rfl rfl rfl (j_listOfM (by rfl) n_list (j_v 0)) j_int (j_v 1) (by rfl))
  (jss_cons (js_set 5 C.hN rfl (by first | exact Or.inl rfl | exact Or.inr rfl) (j_call F__law_root (C.hr.mono l__law_root) C.tk (by rfl) (ja_cons (j_v 0) (ja_cons (j_v 1) ja_nil))))
  (jss_cons (js_for (own := [6]) C.hp rfl (ji_rng1 (by rfl) n_range (j_len (by rfl) n_len (j_v 0))) (jg_nm 6 C.hN rfl (by first | exact Or.inl rfl | exact Or.inr rfl) (by decide)) (jss_one (js_if (jt_ne C.hu (j_v 4) (j_v 5)) (jss_cons (js_set 7 C.hN rfl (by first | exact Or.inl rfl | exact Or.inr rfl) (j_ix (j_v 0) (j_v 4)))
  (jss_cons (js_setIx (j_v 5) (j_v 2) (j_v 4))
  (jss_one (js_par 4 3 rfl C.hN rfl rfl (by decide) rfl rfl (j_v 7) (j_add (j_v 3) j_int) (by rfl))))) jss_nil)))
  (jss_one (js_ret (j_tup (ja_cons (j_tupOf (by rfl) n_tuple (j_v 2)) (ja_cons (j_v 3) ja_nil))))))))
abbrev s__law_found : Stmt := top 23
abbrev N__law_found : List Str := ["_law_forest_in", "_law_nodes", "_law_costs", "_law_node", "_law_cost"]
theorem sc__law_found : FnScope N__law_found ["_law_forest_in", "_law_nodes"] (defScope s__law_found) := ⟨rfl, rfl, rfl, by decide +kernel, rfl, by decide +kernel, by decide +kernel⟩
theorem js__law_found {P : Program} {w : World} {K : PySem.W.Frag} {mg : Str → Option Value} {base : Heap} {k : Nat} {p__law_find : G.Spec} {k__law_find n__law_find : Nat} (F__law_find : Fn P w K mg base "_law_find" k__law_find n__law_find p__law_find) (l__law_find : k__law_find ≤ k) {f : Addr} {cdv : Value} {A : Around} {outer : List Env} {s : Shared} {H : Hp} {E : XK}
    (C : Ct (cxOf (L2N.CX P w) P w K mg base N__law_found "_law_found" (defScope s__law_found) f cdv A outer s H E) (wxOf E) k) :
    JSs (cxOf (L2N.CX P w) P w K mg base N__law_found "_law_found" (defScope s__law_found) f cdv A outer s H E) (wxOf E) (defBody s__law_found) (c_l_found p__law_find) :=
  (jss_cons (js_set 2 C.hN rfl (by first | exact Or.inl rfl | exact Or.inr rfl) (j_listM ja_nil))
  (jss_cons (js_for (own := [3]) C.hp rfl (ji_seq (j_v 1)) (jg_nm 3 C.hN rfl (by first | exact Or.inl rfl | exact Or.inr rfl) (by decide)) (jss_cons (js_asg (own := [0, 4]) (j_call F__law_find (C.hr.mono l__law_find) C.tk (by rfl) (ja_cons (j_v 0) (ja_cons (j_v 3) ja_nil))) (jg_tup rfl (jgs_cons (jg_nm 0 C.hN rfl (by first | exact Or.inl rfl | exact Or.inr rfl) (by decide)) (jgs_cons (jg_nm 4 C.hN rfl (by first | exact Or.inl rfl | exact Or.inr rfl) (by decide)) jgs_nil))))
  (jss_one (js_exp (j_append (j_v 2) (j_v 4))))))
  (jss_frz 2 (jss_one (js_ret (j_tup (ja_cons (j_v 0) (ja_cons (j_v 2) ja_nil))))))))
def c_law_1 (p__law_found : G.Spec) (p__law_same : G.Spec) (p__law_some_forest : G.Spec) (p__law_start : G.Spec) (p__law_take : G.Spec) (p_most_total : G.Spec) (p_roots_of : G.Spec) : S := (.asg (.nm 1) (.app p__law_start (.cons (.v 0) .nil)))
def c_law_2 (p__law_found : G.Spec) (p__law_same : G.Spec) (p__law_some_forest : G.Spec) (p__law_start : G.Spec) (p__law_take : G.Spec) (p_most_total : G.Spec) (p_roots_of : G.Spec) : S := (.asg (.nm 3) (.app p__law_some_forest (.cons (.v 1) (.cons (.c (.int 6)) .nil))))
def c_law_3 (p__law_found : G.Spec) (p__law_same : G.Spec) (p__law_some_forest : G.Spec) (p__law_start : G.Spec) (p__law_take : G.Spec) (p_most_total : G.Spec) (p_roots_of : G.Spec) : S := (.asg (.tup (.cons (.nm 4) (.cons (.nm 5) .nil))) (.app sTup (.cons (.app sLen (.cons (.v 3) .nil)) (.cons (.app p__law_take (.cons (.v 1) (.cons (.c (.int 5)) .nil))) .nil))))
def c_law_4 (p__law_found : G.Spec) (p__law_same : G.Spec) (p__law_some_forest : G.Spec) (p__law_start : G.Spec) (p__law_take : G.Spec) (p_most_total : G.Spec) (p_roots_of : G.Spec) : S := (.asg (.nm 6) (.app sList (.cons (.app sList .nil) .nil)))
def c_law_5 (p__law_found : G.Spec) (p__law_same : G.Spec) (p__law_some_forest : G.Spec) (p__law_start : G.Spec) (p__law_take : G.Spec) (p_most_total : G.Spec) (p_roots_of : G.Spec) : S := (.asg (.nm 8) (.app sListM .nil))
def c_law_6 (p__law_found : G.Spec) (p__law_same : G.Spec) (p__law_some_forest : G.Spec) (p__law_start : G.Spec) (p__law_take : G.Spec) (p_most_total : G.Spec) (p_roots_of : G.Spec) : S := (.exp (.meth chkL sExtend (.v 8) (.cons (.comp false [13] (.nm 13) iRng2 (.cons (.ite (.app sNe (.cons (.v 9) (.cons (.app sList .nil) .nil))) (.app sIx (.cons (.v 9) (.cons (.app sNeg (.cons (.c (.int 1)) .nil)) .nil))) (.c (.int 0))) (.cons (.v 4) .nil)) (.c (.bl true)) (.app sAdd (.cons (.v 9) (.cons (.app sList (.cons (.v 13) .nil)) .nil)))) .nil)))
def c_law_7 (p__law_found : G.Spec) (p__law_same : G.Spec) (p__law_some_forest : G.Spec) (p__law_start : G.Spec) (p__law_take : G.Spec) (p_most_total : G.Spec) (p_roots_of : G.Spec) : S := (.fr (.nm 9) iSeq (.cons (.v 6) .nil) (c_law_6 p__law_found p__law_same p__law_some_forest p__law_start p__law_take p_most_total p_roots_of))
def c_law_8 (p__law_found : G.Spec) (p__law_same : G.Spec) (p__law_some_forest : G.Spec) (p__law_start : G.Spec) (p__law_take : G.Spec) (p_most_total : G.Spec) (p_roots_of : G.Spec) : S := (.asg (.nm 6) (.v 8))
def c_law_9 (p__law_found : G.Spec) (p__law_same : G.Spec) (p__law_some_forest : G.Spec) (p__law_start : G.Spec) (p__law_take : G.Spec) (p_most_total : G.Spec) (p_roots_of : G.Spec) : S := (.fr (.nm 7) iRng1 (.cons (.v 5) .nil) (.seq (c_law_5 p__law_found p__law_same p__law_some_forest p__law_start p__law_take p_most_total p_roots_of) (.seq (c_law_7 p__law_found p__law_same p__law_some_forest p__law_start p__law_take p_most_total p_roots_of) (.seq (.frz 8) (c_law_8 p__law_found p__law_same p__law_some_forest p__law_start p__law_take p_most_total p_roots_of)))))
def c_law_10 (p__law_found : G.Spec) (p__law_same : G.Spec) (p__law_some_forest : G.Spec) (p__law_start : G.Spec) (p__law_take : G.Spec) (p_most_total : G.Spec) (p_roots_of : G.Spec) : S := (.asg (.nm 10) (.app sMaxL (.cons (.app sAdd (.cons (.comp false [9] (.nm 9) iSeq (.cons (.v 6) .nil) (.c (.bl true)) (.app sSum (.cons (.app sIx (.cons (.app p__law_found (.cons (.v 3) (.cons (.v 9) .nil))) (.cons (.c (.int 1)) .nil))) .nil))) (.cons (.app sList (.cons (.c (.int 0)) .nil)) .nil))) .nil)))
def c_law_11 (p__law_found : G.Spec) (p__law_same : G.Spec) (p__law_some_forest : G.Spec) (p__law_start : G.Spec) (p__law_take : G.Spec) (p_most_total : G.Spec) (p_roots_of : G.Spec) : S := (.ret (.c (.bl false)))
def c_law_12 (p__law_found : G.Spec) (p__law_same : G.Spec) (p__law_some_forest : G.Spec) (p__law_start : G.Spec) (p__law_take : G.Spec) (p_most_total : G.Spec) (p_roots_of : G.Spec) : S := (.ite (.app sNot (.cons (.app p__law_same (.cons (.app sList (.cons (.app p_most_total (.cons (.v 3) (.cons (.v 5) .nil))) (.cons (.appk 0 2 [1, 0] p_most_total .nil (.cons (.v 5) (.cons (.v 3) .nil))) .nil))) (.cons (.app sList (.cons (.v 10) (.cons (.v 10) .nil))) .nil))) .nil)) (c_law_11 p__law_found p__law_same p__law_some_forest p__law_start p__law_take p_most_total p_roots_of) .skip)
def c_law_13 (p__law_found : G.Spec) (p__law_same : G.Spec) (p__law_some_forest : G.Spec) (p__law_start : G.Spec) (p__law_take : G.Spec) (p_most_total : G.Spec) (p_roots_of : G.Spec) : S := (.asg (.nm 11) (.app sSub (.cons (.app p_most_total (.cons (.v 3) (.cons (.app sAdd (.cons (.v 5) (.cons (.c (.int 1)) .nil))) .nil))) (.cons (.v 10) .nil))))
def c_law_14 (p__law_found : G.Spec) (p__law_same : G.Spec) (p__law_some_forest : G.Spec) (p__law_start : G.Spec) (p__law_take : G.Spec) (p_most_total : G.Spec) (p_roots_of : G.Spec) : S := (.asg (.nm 12) (.app sEq (.cons (.app p_roots_of (.cons (.v 3) .nil)) (.cons (.app sListRg (.cons (.c (.int 0)) (.cons (.v 4) .nil))) .nil))))
def c_law_15 (p__law_found : G.Spec) (p__law_same : G.Spec) (p__law_some_forest : G.Spec) (p__law_start : G.Spec) (p__law_take : G.Spec) (p_most_total : G.Spec) (p_roots_of : G.Spec) : S := (.ret (.c (.bl false)))
def c_law_16 (p__law_found : G.Spec) (p__law_same : G.Spec) (p__law_some_forest : G.Spec) (p__law_start : G.Spec) (p__law_take : G.Spec) (p_most_total : G.Spec) (p_roots_of : G.Spec) : S := (.ite (.or (.and (.v 12) (.app sNe (.cons (.v 11) (.cons (.c (.int 0)) .nil)))) (.and (.app sNot (.cons (.v 12) .nil)) (.app sLt (.cons (.v 11) (.cons (.c (.int 1)) .nil))))) (c_law_15 p__law_found p__law_same p__law_some_forest p__law_start p__law_take p_most_total p_roots_of) .skip)
def c_law_17 (p__law_found : G.Spec) (p__law_same : G.Spec) (p__law_some_forest : G.Spec) (p__law_start : G.Spec) (p__law_take : G.Spec) (p_most_total : G.Spec) (p_roots_of : G.Spec) : S := (.fr (.nm 2) iRng1 (.cons (.c (.int 2)) .nil) (.seq (c_law_2 p__law_found p__law_same p__law_some_forest p__law_start p__law_take p_most_total p_roots_of) (.seq (c_law_3 p__law_found p__law_same p__law_some_forest p__law_start p__law_take p_most_total p_roots_of) (.seq (c_law_4 p__law_found p__law_same p__law_some_forest p__law_start p__law_take p_most_total p_roots_of) (.seq (c_law_9 p__law_found p__law_same p__law_some_forest p__law_start p__law_take p_most_total p_roots_of) (.seq (c_law_10 p__law_found p__law_same p__law_some_forest p__law_start p__law_take p_most_total p_roots_of) (.seq (c_law_12 p__law_found p__law_same p__law_some_forest p__law_start p__law_take p_most_total p_roots_of) (.seq (c_law_13 p__law_found p__law_same p__law_some_forest p__law_start p__law_take p_most_total p_roots_of) (.seq (c_law_14 p__law_found p__law_same p__law_some_forest p__law_start p__law_take p_most_total p_roots_of) (c_law_16 p__law_found p__law_same p__law_some_forest p__law_start p__law_take p_most_total p_roots_of))))))))))
def c_law_18 (p__law_found : G.Spec) (p__law_same : G.Spec) (p__law_some_forest : G.Spec) (p__law_start : G.Spec) (p__law_take : G.Spec) (p_most_total : G.Spec) (p_roots_of : G.Spec) : S := (.ret (.app p__law_same (.cons (.app sList (.cons (.app p_most_total (.cons (.app sTup .nil) (.cons (.c (.int 3)) .nil))) (.cons (.app p_most_total (.cons (.app sTup (.cons (.c (.int 0)) (.cons (.c (.int 1)) .nil))) (.cons (.c (.int 20)) .nil))) (.cons (.app p_most_total (.cons (.app sTup (.cons (.c (.int 0)) (.cons (.c (.int 0)) .nil))) (.cons (.c (.int 20)) .nil))) .nil)))) (.cons (.app sList (.cons (.c (.int 0)) (.cons (.c (.int 0)) (.cons (.c (.int 20)) .nil)))) .nil))))
def c_law (p__law_found : G.Spec) (p__law_same : G.Spec) (p__law_some_forest : G.Spec) (p__law_start : G.Spec) (p__law_take : G.Spec) (p_most_total : G.Spec) (p_roots_of : G.Spec) : S := (.seq (c_law_1 p__law_found p__law_same p__law_some_forest p__law_start p__law_take p_most_total p_roots_of) (.seq (c_law_17 p__law_found p__law_same p__law_some_forest p__law_start p__law_take p_most_total p_roots_of) (c_law_18 p__law_found p__law_same p__law_some_forest p__law_start p__law_take p_most_total p_roots_of)))
abbrev s_law : Stmt := top 24
abbrev N_law : List Str := ["_law_script", "_law_draw", "_law_turn", "_law_forest_in", "_law_size_here", "_law_times_in", "_law_lines", "_law_step", "_law_longer", "_law_line", "_law_due", "_law_more", "_law_plain", "_law_node"]
theorem sc_law : FnScope N_law ["_law_script"] (defScope s_law) := ⟨rfl, rfl, rfl, by decide +kernel, rfl, by decide +kernel, by decide +kernel⟩
theorem js_law {P : Program} {w : World} {K : PySem.W.Frag} {mg : Str → Option Value} {base : Heap} {k : Nat} (n_len : mg "len" = none) (n_list : mg "list" = none) (n_max : mg "max" = none) (n_range : mg "range" = none) (n_sum : mg "sum" = none) {p__law_found : G.Spec} {k__law_found n__law_found : Nat} (F__law_found : Fn P w K mg base "_law_found" k__law_found n__law_found p__law_found) (l__law_found : k__law_found ≤ k) {p__law_same : G.Spec} {k__law_same n__law_same : Nat} (F__law_same : Fn P w K mg base "_law_same" k__law_same n__law_same p__law_same) (l__law_same : k__law_same ≤ k) {p__law_some_forest : G.Spec} {k__law_some_forest n__law_some_forest : Nat} (F__law_some_forest : Fn P w K mg base "_law_some_forest" k__law_some_forest n__law_some_forest p__law_some_forest) (l__law_some_forest : k__law_some_forest ≤ k) {p__law_start : G.Spec} {k__law_start n__law_start : Nat} (F__law_start : Fn P w K mg base "_law_start" k__law_start n__law_start p__law_start) (l__law_start : k__law_start ≤ k) {p__law_take : G.Spec} {k__law_take n__law_take : Nat} (F__law_take : Fn P w K mg base "_law_take" k__law_take n__law_take p__law_take) (l__law_take : k__law_take ≤ k) {p_most_total : G.Spec} {k_most_total n_most_total : Nat} (F_most_total : Fn P w K mg base "most_total" k_most_total n_most_total p_most_total) (l_most_total : k_most_total ≤ k) {p_roots_of : G.Spec} {k_roots_of n_roots_of : Nat} (F_roots_of : Fn P w K mg base "roots_of" k_roots_of n_roots_of p_roots_of) (l_roots_of : k_roots_of ≤ k) (K_most_total_0_times_forest : FnK P w K mg base "most_total" k_most_total 0 ["times", "forest"] [1, 0] p_most_total) {f : Addr} {cdv : Value} {A : Around} {outer : List Env} {s : Shared} {H : Hp} {E : XK}
    (C : Ct (cxOf (L2N.CX P w) P w K mg base N_law "law" (defScope s_law) f cdv A outer s H E) (wxOf E) k) :
    JSs (cxOf (L2N.CX P w) P w K mg base N_law "law" (defScope s_law) f cdv A outer s H E) (wxOf E) (defBody s_law) (c_law p__law_found p__law_same p__law_some_forest p__law_start p__law_take p_most_total p_roots_of) :=
  (jss_cons (js_set 1 C.hN rfl (by first | exact Or.inl rfl | exact Or.inr rfl) (j_call F__law_start (C.hr.mono l__law_start) C.tk (by rfl) (ja_cons (j_v 0) ja_nil)))
  (jss_cons (js_for (own := [2]) C.hp rfl (ji_rng1 (by rfl) n_range j_int) (jg_nm 2 C.hN rfl (by first | exact Or.inl rfl | exact Or.inr rfl) (by decide)) (jss_cons (js_set 3 C.hN rfl (by first | exact Or.inl rfl | exact Or.inr rfl) (j_call F__law_some_forest (C.hr.mono l__law_some_forest) C.tk (by rfl) (ja_cons (j_v 1) (ja_cons j_int ja_nil))))
  (jss_cons (js_par 4 5 rfl C.hN rfl rfl (by decide) rfl rfl (j_len (by rfl) n_len (j_v 3)) (j_call F__law_take (C.hr.mono l__law_take) C.tk (by rfl) (ja_cons (j_v 1) (ja_cons j_int ja_nil))) (by rfl))
  (jss_cons (js_set 6 C.hN rfl (by first | exact Or.inl rfl | exact Or.inr rfl) (j_list (k := 0) (ja_cons (j_list (k := 0) ja_nil) ja_nil)))
  (jss_cons (js_for (own := [7]) C.hp rfl (ji_rng1 (by rfl) n_range (j_v 5)) (jg_nm 7 C.hN rfl (by first | exact Or.inl rfl | exact Or.inr rfl) (by decide)) (jss_cons (js_set 8 C.hN rfl (by first | exact Or.inl rfl | exact Or.inr rfl) (j_listM ja_nil))
  (jss_cons (js_for (own := [9]) C.hp rfl (ji_seq (j_v 6)) (jg_nm 9 C.hN rfl (by first | exact Or.inl rfl | exact Or.inr rfl) (by decide)) (jss_one (js_exp (j_extend (j_v 8) (j_comp false (own := [("_law_node", 13)]) rfl C.hN (ji_rng2 (by rfl) n_range (je_if (jt_ne C.hu (j_v 9) (j_list (k := 0) ja_nil)) (j_ix (j_v 9) (j_neg j_int)) j_int) (j_v 4)) (blkOk_by (N := N_law) (sc := defScope s_law) (own := [("_law_node", 13)]) (by decide +kernel)) (fun _ _ _ _ _ => (jg_nm 13 C.hN rfl (by first | exact Or.inl rfl | exact Or.inr rfl) (by decide))) (fun _ _ _ _ _ => jts_nil) (fun _ _ _ _ _ => (j_add (j_v 9) (j_list (k := 0) (ja_cons (j_v 13) ja_nil)))))))))
  (jss_frz 8 (jss_one (js_set 6 C.hN rfl (by first | exact Or.inl rfl | exact Or.inr rfl) (j_v 8)))))))
  (jss_cons (js_set 10 C.hN rfl (by first | exact Or.inl rfl | exact Or.inr rfl) (j_maxL rfl (by rfl) n_max (j_add (j_comp false (own := [("_law_line", 9)]) rfl C.hN (ji_seq (j_v 6)) (blkOk_by (N := N_law) (sc := defScope s_law) (own := [("_law_line", 9)]) (by decide +kernel)) (fun _ _ _ _ _ => (jg_nm 9 C.hN rfl (by first | exact Or.inl rfl | exact Or.inr rfl) (by decide))) (fun _ _ _ _ _ => jts_nil) (fun _ _ _ _ _ => (j_sum rfl (by rfl) n_sum (j_ix (j_call F__law_found (C.hr.mono l__law_found) takesN (by rfl) (ja_cons (j_v 3) (ja_cons (j_v 9) ja_nil))) j_int)))) (j_list (k := 0) (ja_cons j_int ja_nil)))))
  (jss_cons (js_if (jt_not (jt_val (j_call F__law_same (C.hr.mono l__law_same) C.tk (by rfl) (ja_cons (j_list (k := 0) (ja_cons (j_call F_most_total (C.hr.mono l_most_total) C.tk (by rfl) (ja_cons (j_v 3) (ja_cons (j_v 5) ja_nil))) (ja_cons (j_callk0 K_most_total_0_times_forest (C.hr.mono l_most_total) C.tk (by rfl) (jk_cons (j_v 5) (jk_cons (j_v 3) jk_nil))) ja_nil))) (ja_cons (j_list (k := 0) (ja_cons (j_v 10) (ja_cons (j_v 10) ja_nil))) ja_nil))))) (jss_one (js_ret j_bl)) jss_nil)
  (jss_cons (js_set 11 C.hN rfl (by first | exact Or.inl rfl | exact Or.inr rfl) (j_sub (j_call F_most_total (C.hr.mono l_most_total) C.tk (by rfl) (ja_cons (j_v 3) (ja_cons (j_add (j_v 5) j_int) ja_nil))) (j_v 10)))
  (jss_cons (js_set 12 C.hN rfl (by first | exact Or.inl rfl | exact Or.inr rfl) (j_eq C.hu (j_call F_roots_of (C.hr.mono l_roots_of) C.tk (by rfl) (ja_cons (j_v 3) ja_nil)) (j_listRg1 rfl (by rfl) n_list (by rfl) n_range (j_v 4))))
  (jss_one (js_if (jt_w (jw_or (jt_w (jw_and (jt_val (j_v 12)) (jw_and1 (jt_ne C.hu (j_v 11) j_int)))) (jw_or1 (jt_w (jw_and (jt_not (jt_val (j_v 12))) (jw_and1 (jt_lt (j_v 11) j_int))))))) (jss_one (js_ret j_bl)) jss_nil)))))))))))
  (jss_one (js_ret (j_call F__law_same (C.hr.mono l__law_same) C.tk (by rfl) (ja_cons (j_list (k := 0) (ja_cons (j_call F_most_total (C.hr.mono l_most_total) C.tk (by rfl) (ja_cons (j_tup ja_nil) (ja_cons j_int ja_nil))) (ja_cons (j_call F_most_total (C.hr.mono l_most_total) C.tk (by rfl) (ja_cons (j_tup (ja_cons j_int (ja_cons j_int ja_nil))) (ja_cons j_int ja_nil))) (ja_cons (j_call F_most_total (C.hr.mono l_most_total) C.tk (by rfl) (ja_cons (j_tup (ja_cons j_int (ja_cons j_int ja_nil))) (ja_cons j_int ja_nil))) ja_nil)))) (ja_cons (j_list (k := 0) (ja_cons j_int (ja_cons j_int (ja_cons j_int ja_nil)))) ja_nil)))))))
end K41

/-! GGreedy: the greedy choice of longest new paths is the best. Plain mathematics. -/
namespace G
section
variable {p : List Nat} {M : Nat → Bool}
/-- what a find adds -/
def gn (p : List Nat) (M : Nat → Bool) (i : Nat) : Nat := (path p i).countP fun j => !M j && deep p j
def cov (p : List Nat) (ys : List Nat) (j : Nat) : Bool := ys.any fun y => decide (j ∈ path p y)
theorem path_suf (h : FoOk p) : ∀ i, i < p.length → ∀ j ∈ path p i, ∃ B, path p i = B ++ path p j := by
  refine up_ind h (M := fun i => ∀ j ∈ path p i, ∃ B, path p i = B ++ path p j) ?_ ?_
  · intro i hi e j hj
    rw [path_root h hi e] at hj
    rw [List.mem_singleton.mp hj]; exact ⟨[], rfl⟩
  · intro i hi e ih j hj
    rw [path_step h hi e] at hj
    rcases List.mem_cons.mp hj with hj | hj
    · rw [hj]; exact ⟨[], rfl⟩
    · obtain ⟨B, hB⟩ := ih j hj
      exact ⟨i :: B, by rw [path_step h hi e, hB]; rfl⟩
theorem path_cross (h : FoOk p) {ys : List Nat} (hy : ∀ y ∈ ys, y < p.length) (hn : ys ≠ []) : ∀ g, g < p.length →
    ∃ y ∈ ys, ∃ A B C, path p g = A ++ C ∧ path p y = B ++ C ∧ ∀ a ∈ A, ∀ z ∈ ys, a ∉ path p z := by
  have key : ∀ g, g < p.length → (∃ z ∈ ys, g ∈ path p z) → ∃ y ∈ ys, ∃ A B C, path p g = A ++ C ∧ path p y = B ++ C ∧ ∀ a ∈ A, ∀ z ∈ ys, a ∉ path p z := by
    rintro g hg ⟨z, hz, hm⟩
    obtain ⟨B, hB⟩ := path_suf h z (hy z hz) g hm
    exact ⟨z, hz, [], B, path p g, rfl, hB, by simp⟩
  refine up_ind h (M := fun g => ∃ y ∈ ys, ∃ A B C, path p g = A ++ C ∧ path p y = B ++ C ∧ ∀ a ∈ A, ∀ z ∈ ys, a ∉ path p z) ?_ ?_
  · intro g hg e
    by_cases hc : ∃ z ∈ ys, g ∈ path p z
    · exact key g hg hc
    · obtain ⟨y, r, rfl⟩ := List.exists_cons_of_ne_nil hn
      refine ⟨y, List.mem_cons_self, [g], path p y, [], by rw [path_root h hg e]; rfl, by simp, ?_⟩
      intro a ha z hz hm
      rw [List.mem_singleton.mp ha] at hm
      exact hc ⟨z, hz, hm⟩
  · intro g hg e ih
    by_cases hc : ∃ z ∈ ys, g ∈ path p z
    · exact key g hg hc
    · obtain ⟨y, hyy, A, B, C, e1, e2, hA⟩ := ih
      refine ⟨y, hyy, g :: A, B, C, by rw [path_step h hg e, e1]; rfl, e2, ?_⟩
      intro a ha z hz hm
      rcases List.mem_cons.mp ha with ha | ha
      · rw [ha] at hm; exact hc ⟨z, hz, hm⟩
      · exact hA a ha z hz hm
theorem dm_mores (xs : List Nat) (M : Nat → Bool) : dm p (mores p M xs) = dm p M + (List.range p.length).countP (fun j => mk p xs j && (!M j && deep p j)) := by
  unfold dm
  have e : ∀ j, (mores p M xs j && deep p j) = ((M j && deep p j) || (mk p xs j && deep p j)) := fun j => by
    rw [mores_eq]; cases M j <;> cases mk p xs j <;> cases deep p j <;> rfl
  rw [List.countP_congr (fun j _ => by rw [e j]), countP_or]
  congr 1
  refine List.countP_congr fun j _ => ?_
  cases M j <;> cases mk p xs j <;> cases deep p j <;> simp
theorem mk_cov (h : FoOk p) {xs : List Nat} (hx : ∀ i ∈ xs, i < p.length) (j : Nat) (f : Bool) : (mk p xs j && (f && deep p j)) = (cov p xs j && (f && deep p j)) := by
  cases hd : deep p j with
  | false => simp
  | true =>
    cases f with
    | false => simp
    | true =>
      simp only [Bool.and_true]
      unfold mk cov
      rw [Bool.eq_iff_iff, List.any_eq_true, List.any_eq_true]
      constructor
      · rintro ⟨x, hx', hp⟩
        exact ⟨x, hx', by simp at hp ⊢; exact hp.1⟩
      · rintro ⟨x, hx', hp⟩
        refine ⟨x, hx', ?_⟩
        simp at hp ⊢
        refine ⟨hp, fun e => ?_⟩
        have := (root_lt h x (hx x hx')).2
        unfold deep at hd
        rw [← e] at this
        simp [this] at hd
theorem dm_cov (h : FoOk p) {xs : List Nat} (hx : ∀ i ∈ xs, i < p.length) (M : Nat → Bool) : dm p (mores p M xs) = dm p M + (List.range p.length).countP (fun j => cov p xs j && (!M j && deep p j)) := by
  rw [dm_mores]
  congr 1
  exact List.countP_congr fun j _ => by rw [mk_cov h hx]
theorem countP_le3 {α : Type} (f g k : α → Bool) : ∀ l : List α, (∀ a ∈ l, f a = true → g a = true ∨ k a = true) → l.countP f ≤ l.countP g + l.countP k
  | [], _ => by simp
  | a :: l, h => by
    have ih := countP_le3 f g k l fun b hb => h b (List.mem_cons_of_mem _ hb)
    have := h a List.mem_cons_self
    rw [List.countP_cons, List.countP_cons, List.countP_cons]
    cases hf : f a <;> cases hg : g a <;> cases hk : k a <;> simp [hf, hg, hk] at this ⊢ <;> omega
theorem countP_ge3 {α : Type} (f g k : α → Bool) : ∀ l : List α, (∀ a ∈ l, (g a = true → f a = true ∧ k a = false) ∧ (k a = true → f a = true)) → l.countP g + l.countP k ≤ l.countP f
  | [], _ => by simp
  | a :: l, h => by
    have ih := countP_ge3 f g k l fun b hb => h b (List.mem_cons_of_mem _ hb)
    have := h a List.mem_cons_self
    rw [List.countP_cons, List.countP_cons, List.countP_cons]
    cases hf : f a <;> cases hg : g a <;> cases hk : k a <;> simp [hf, hg, hk] at this ⊢ <;> omega
/-- a best choice -/
def Best (p : List Nat) (M : Nat → Bool) (g : Nat) : Prop := g < p.length ∧ ∀ i, i < p.length → gn p M i ≤ gn p M g
theorem exch (h : FoOk p) {ys : List Nat} (hy : ∀ y ∈ ys, y < p.length) (hn : ys ≠ []) {g : Nat} (hg : Best p M g) :
    ∃ y ∈ ys, dm p (mores p M ys) ≤ dm p (mores p M (g :: ys.erase y)) := by
  obtain ⟨y, hyy, A, B, C, eg, ey, hA⟩ := path_cross h hy hn g hg.1
  refine ⟨y, hyy, ?_⟩
  have hy' : ∀ z ∈ ys.erase y, z < p.length := fun z hz => hy z (List.mem_of_mem_erase hz)
  rw [dm_cov h hy, dm_cov h (xs := g :: ys.erase y) (by
    intro z hz; rcases List.mem_cons.mp hz with hz | hz
    · rw [hz]; exact hg.1
    · exact hy' z hz)]
  have hAl : ∀ j ∈ A, j < p.length := fun j hj => path_lt h g hg.1 j (by rw [eg]; exact List.mem_append_left _ hj)
  have hBl : ∀ j ∈ B, j < p.length := fun j hj => path_lt h y (hy y hyy) j (by rw [ey]; exact List.mem_append_left _ hj)
  have hAn : A.Nodup := (List.nodup_append.mp (eg ▸ path_nodup h g hg.1)).1
  have hBn : B.Nodup := (List.nodup_append.mp (ey ▸ path_nodup h y (hy y hyy))).1
  have hb := hg.2 y (hy y hyy)
  unfold gn at hb
  rw [eg, ey, List.countP_append, List.countP_append] at hb
  have cA := countP_sub (n := p.length) (f := fun j => !M j && deep p j) hAn hAl
  have cB := countP_sub (n := p.length) (f := fun j => !M j && deep p j) hBn hBl
  have up := countP_le3 (fun j => cov p ys j && (!M j && deep p j)) (fun j => (cov p (ys.erase y) j || decide (j ∈ C)) && (!M j && deep p j)) (fun j => decide (j ∈ B) && (!M j && deep p j)) (List.range p.length) (by
    intro j _ hj
    rw [Bool.and_eq_true] at hj
    obtain ⟨hc, hf⟩ := hj
    obtain ⟨z, hz, hm⟩ := List.any_eq_true.mp hc
    have hm := of_decide_eq_true hm
    rw [hf, Bool.and_true, Bool.and_true]
    by_cases ez : z = y
    · rw [ez, ey] at hm
      rcases List.mem_append.mp hm with hm | hm
      · right; exact decide_eq_true hm
      · left; rw [decide_eq_true hm, Bool.or_true]
    · left
      rw [Bool.or_eq_true]; left
      exact List.any_eq_true.mpr ⟨z, (List.mem_erase_of_ne ez).mpr hz, decide_eq_true hm⟩)
  have dn := countP_ge3 (fun j => cov p (g :: ys.erase y) j && (!M j && deep p j)) (fun j => (cov p (ys.erase y) j || decide (j ∈ C)) && (!M j && deep p j)) (fun j => decide (j ∈ A) && (!M j && deep p j)) (List.range p.length) (by
    intro j _
    refine ⟨fun hj => ?_, fun hj => ?_⟩
    · rw [Bool.and_eq_true] at hj
      obtain ⟨hc, hf⟩ := hj
      rw [hf, Bool.and_true, Bool.and_true]
      rw [Bool.or_eq_true] at hc
      constructor
      · rcases hc with hc | hc
        · unfold cov at hc ⊢
          rw [List.any_cons, hc, Bool.or_true]
        · unfold cov
          rw [List.any_cons, eg, decide_eq_true (List.mem_append_right _ (of_decide_eq_true hc)), Bool.true_or]
      · refine decide_eq_false fun ha => ?_
        rcases hc with hc | hc
        · obtain ⟨z, hz, hm⟩ := List.any_eq_true.mp hc
          exact hA j ha z (List.mem_of_mem_erase hz) (of_decide_eq_true hm)
        · exact hA j ha y hyy (by rw [ey]; exact List.mem_append_right _ (of_decide_eq_true hc))
    · rw [Bool.and_eq_true] at hj
      obtain ⟨hc, hf⟩ := hj
      rw [hf, Bool.and_true]
      unfold cov
      rw [List.any_cons, eg, decide_eq_true (List.mem_append_left _ (of_decide_eq_true hc)), Bool.true_or])
  omega
/-- best choices one after another -/
def Greedy (p : List Nat) : (Nat → Bool) → List Nat → Prop
  | _, [] => True
  | M, g :: r => Best p M g ∧ Greedy p (more p M g) r
theorem greedy_lt : ∀ {xs : List Nat} {M : Nat → Bool}, Greedy p M xs → ∀ i ∈ xs, i < p.length
  | [], _, _ => by simp
  | g :: r, M, h => by
    intro i hi
    rcases List.mem_cons.mp hi with hi | hi
    · rw [hi]; exact h.1.1
    · exact greedy_lt h.2 i hi
theorem greedy_best (h : FoOk p) : ∀ (xs : List Nat) (M : Nat → Bool), Greedy p M xs → ∀ ys : List Nat, ys.length = xs.length → (∀ y ∈ ys, y < p.length) → dm p (mores p M ys) ≤ dm p (mores p M xs)
  | [], M, _, ys, e, _ => by rw [List.length_eq_zero_iff.mp e]; exact Nat.le_refl _
  | g :: r, M, hg, ys, e, hy => by
    have hn : ys ≠ [] := by rintro rfl; simp at e
    obtain ⟨y, hyy, le⟩ := exch h hy hn hg.1
    refine Nat.le_trans le ?_
    rw [mores, mores]
    refine greedy_best h r (more p M g) hg.2 (ys.erase y) ?_ fun z hz => hy z (List.mem_of_mem_erase hz)
    rw [List.length_erase_of_mem hyy, e]; simp
/-- what greedy lists gain: the same for all -/
theorem greedy_same (h : FoOk p) {xs ys : List Nat} {M : Nat → Bool} (hx : Greedy p M xs) (hy : Greedy p M ys) (e : xs.length = ys.length) : dm p (mores p M xs) = dm p (mores p M ys) :=
  Nat.le_antisymm (greedy_best h ys M hy xs e (greedy_lt hx)) (greedy_best h xs M hx ys e.symm (greedy_lt hy))
/-- the sum of the gains -/
def gsum (p : List Nat) : (Nat → Bool) → List Nat → Nat
  | _, [] => 0
  | M, g :: r => gn p M g + gsum p (more p M g) r
theorem dm_gsum (h : FoOk p) : ∀ (xs : List Nat) (M : Nat → Bool), MOk p M → (∀ i ∈ xs, i < p.length) → dm p (mores p M xs) = dm p M + gsum p M xs
  | [], M, _, _ => rfl
  | g :: r, M, hM, hx => by
    rw [mores, dm_gsum h r _ (more_ok h hM (hx g List.mem_cons_self)) fun j hj => hx j (List.mem_cons_of_mem _ hj), dm_more h hM (hx g List.mem_cons_self), gsum]
    unfold gn; omega
theorem gn_root (h : FoOk p) {i : Nat} (hi : i < p.length) (e : par p i = i) : gn p M i = 0 := by
  unfold gn; rw [path_root h hi e]
  have : deep p i = false := by unfold deep; simp [e]
  simp [this]
theorem mores_app : ∀ (xs ys : List Nat) (M : Nat → Bool), mores p M (xs ++ ys) = mores p (mores p M xs) ys
  | [], _, _ => rfl
  | x :: xs, ys, M => by rw [List.cons_append, mores, mores, mores_app xs ys]
theorem greedy_app : ∀ {xs : List Nat} {M : Nat → Bool} {g : Nat}, Greedy p M xs → Best p (mores p M xs) g → Greedy p M (xs ++ [g])
  | [], _, _, _, hb => ⟨hb, trivial⟩
  | _ :: _, _, _, h, hb => ⟨h.1, greedy_app h.2 hb⟩
theorem greedy_pre : ∀ {xs ys : List Nat} {M : Nat → Bool}, Greedy p M (xs ++ ys) → Greedy p M xs
  | [], _, _, _ => trivial
  | _ :: _, _, _, h => ⟨h.1, greedy_pre h.2⟩
theorem arg_max (f : Nat → Nat) : ∀ n, 0 < n → ∃ g, g < n ∧ ∀ i, i < n → f i ≤ f g
  | 0, h => absurd h (Nat.lt_irrefl _)
  | 1, _ => ⟨0, by omega, fun i hi => by rw [show i = 0 by omega]; exact Nat.le_refl _⟩
  | n + 2, _ => by
    obtain ⟨g, h1, h2⟩ := arg_max f (n + 1) (by omega)
    by_cases e : f g ≤ f (n + 1)
    · refine ⟨n + 1, by omega, fun i hi => ?_⟩
      by_cases q : i < n + 1
      · exact Nat.le_trans (h2 i q) e
      · rw [show i = n + 1 by omega]; exact Nat.le_refl _
    · refine ⟨g, by omega, fun i hi => ?_⟩
      by_cases q : i < n + 1
      · exact h2 i q
      · rw [show i = n + 1 by omega]; omega
theorem best_ex (h0 : 0 < p.length) (M : Nat → Bool) : ∃ g, Best p M g := arg_max (gn p M) p.length h0
theorem best_nr (h : FoOk p) {M : Nat → Bool} (hn : ∃ i, i < p.length ∧ par p i ≠ i) : ∃ g, Best p M g ∧ par p g ≠ g := by
  obtain ⟨i, hi, ne⟩ := hn
  obtain ⟨g, hg⟩ := best_ex (p := p) (by omega) M
  by_cases e : par p g = g
  · refine ⟨i, ⟨hi, fun j hj => ?_⟩, ne⟩
    have := hg.2 j hj
    rw [gn_root h hg.1 e] at this
    omega
  · exact ⟨g, hg, e⟩
theorem greedy_nr (h : FoOk p) (hn : ∃ i, i < p.length ∧ par p i ≠ i) : ∀ (k : Nat) (M : Nat → Bool), ∃ xs, xs.length = k ∧ Greedy p M xs ∧ ∀ x ∈ xs, par p x ≠ x
  | 0, _ => ⟨[], rfl, trivial, by simp⟩
  | k + 1, M => by
    obtain ⟨g, hg, ne⟩ := best_nr h (M := M) hn
    obtain ⟨xs, e, hx, hr⟩ := greedy_nr h hn k (more p M g)
    refine ⟨g :: xs, by simp [e], ⟨hg, hx⟩, fun x hx => ?_⟩
    rcases List.mem_cons.mp hx with hx | hx
    · rw [hx]; exact ne
    · exact hr x hx
end
end G

/-! GMostL: the greatest total cost is what the greedy choice gives. Plain mathematics. -/
namespace G
def asc (n : Nat) : Nat → List (List Nat)
  | 0 => [[]]
  | k + 1 => (asc n k).flatMap fun l => (List.range' (l.getLastD 0) (n - l.getLastD 0)).map fun x => l ++ [x]
theorem asc_ok {n : Nat} : ∀ (k : Nat), ∀ l ∈ asc n k, l.length = k ∧ ∀ x ∈ l, x < n
  | 0, l, h => by
    rw [List.mem_singleton.mp h]; exact ⟨rfl, by simp⟩
  | k + 1, l, h => by
    obtain ⟨m, hm, hl⟩ := List.mem_flatMap.mp h
    obtain ⟨x, hx, rfl⟩ := List.mem_map.mp hl
    obtain ⟨h1, h2⟩ := asc_ok k m hm
    have hx := List.mem_range'_1.mp hx
    refine ⟨by simp [h1], fun y hy => ?_⟩
    rcases List.mem_append.mp hy with hy | hy
    · exact h2 y hy
    · rw [List.mem_singleton.mp hy]; omega
theorem flatMap_le {α β : Type} {f : α → List β} {n : Nat} : ∀ (l : List α), (∀ a ∈ l, (f a).length ≤ n) → (l.flatMap f).length ≤ l.length * n
  | [], _ => by simp
  | a :: l, h => by
    have := flatMap_le l fun b hb => h b (List.mem_cons_of_mem _ hb)
    have := h a List.mem_cons_self
    rw [List.flatMap_cons, List.length_append, List.length_cons, Nat.succ_mul]
    omega
theorem asc_len (n : Nat) : ∀ k, (asc n k).length ≤ n ^ k
  | 0 => by simp [asc]
  | k + 1 => by
    have := asc_len n k
    refine Nat.le_trans (flatMap_le (n := n) _ fun l _ => by simp) ?_
    rw [Nat.pow_succ]
    exact Nat.mul_le_mul_right n this
theorem snoc_ind {α : Type} {P : List α → Prop} (h0 : P []) (hs : ∀ l x, P l → P (l ++ [x])) : ∀ l, P l := by
  intro l
  suffices ∀ n (l : List α), l.length = n → P l from this _ l rfl
  intro n
  induction n with
  | zero => intro l e; rw [List.length_eq_zero_iff.mp e]; exact h0
  | succ n ih =>
    intro l e
    have hn : l ≠ [] := by rintro rfl; simp at e
    rw [← List.dropLast_concat_getLast hn]
    exact hs _ _ (ih _ (by rw [List.length_dropLast]; omega))
theorem asc_mem {n : Nat} : ∀ (l : List Nat), l.Pairwise (· ≤ ·) → (∀ x ∈ l, x < n) → l ∈ asc n l.length := by
  refine snoc_ind (P := fun l => l.Pairwise (· ≤ ·) → (∀ x ∈ l, x < n) → l ∈ asc n l.length) (fun _ _ => by simp [asc]) ?_
  intro l x ih hp hl
  obtain ⟨p1, _, p2⟩ := List.pairwise_append.mp hp
  have hx : x < n := hl x (by simp)
  rw [List.length_append, List.length_singleton, asc]
  refine List.mem_flatMap.mpr ⟨l, ih p1 fun y hy => hl y (List.mem_append_left _ hy), List.mem_map.mpr ⟨x, List.mem_range'_1.mpr ⟨?_, ?_⟩, rfl⟩⟩
  · by_cases e : l = []
    · subst e; simp
    · rw [List.getLastD_eq_getLast?, List.getLast?_eq_some_getLast e]
      exact p2 _ (List.getLast_mem e) x (by simp)
  · have : l.getLastD 0 < n ∨ l.getLastD 0 = 0 := by
      by_cases e : l = []
      · subst e; right; rfl
      · left
        rw [List.getLastD_eq_getLast?, List.getLast?_eq_some_getLast e]
        exact hl _ (List.mem_append_left _ (List.getLast_mem e))
    omega
def AllR (p : List Nat) : Prop := ∀ i, i < p.length → par p i = i
def IsMost (p : List Nat) (k v : Nat) : Prop := (AllR p ∧ v = 0) ∨ ((∃ i, i < p.length ∧ par p i ≠ i) ∧ ∃ xs, xs.length = k ∧ Greedy p (fun _ => false) xs ∧ v = k + dm p (mores p (fun _ => false) xs))
section
variable {p : List Nat}
theorem not_allR : (∃ i, i < p.length ∧ par p i ≠ i) → ¬ AllR p := fun ⟨i, hi, e⟩ h => e (h i hi)
theorem mk_mores (xs : List Nat) : mk p xs = mores p (fun _ => false) xs := funext fun j => by rw [mores_eq]; simp
theorem nroot_le : ∀ xs : List Nat, (xs.map (nroot p)).sum ≤ xs.length
  | [] => Nat.le_refl _
  | x :: xs => by
    have := nroot_le xs
    have : nroot p x ≤ 1 := by unfold nroot; split <;> omega
    simp only [List.map_cons, List.sum_cons, List.length_cons]
    omega
theorem nroot_all : ∀ {xs : List Nat}, (∀ x ∈ xs, par p x ≠ x) → (xs.map (nroot p)).sum = xs.length
  | [], _ => rfl
  | x :: xs, h => by
    have := nroot_all (xs := xs) fun y hy => h y (List.mem_cons_of_mem _ hy)
    have : nroot p x = 1 := by unfold nroot; rw [if_neg (h x List.mem_cons_self)]
    simp only [List.map_cons, List.sum_cons, List.length_cons]
    omega
theorem dm_allR (h : AllR p) (M : Nat → Bool) : dm p M = 0 := by
  unfold dm
  rw [List.countP_eq_zero]
  intro j hj
  have := h j (List.mem_range.mp hj)
  simp [deep, this]
theorem nroot_allR (h : AllR p) : ∀ xs : List Nat, (∀ x ∈ xs, x < p.length) → (xs.map (nroot p)).sum = 0
  | [], _ => rfl
  | x :: xs, hx => by
    have := nroot_allR h xs fun y hy => hx y (List.mem_cons_of_mem _ hy)
    have : nroot p x = 0 := by unfold nroot; rw [if_pos (h x (hx x List.mem_cons_self))]
    simp only [List.map_cons, List.sum_cons]
    omega
theorem most_ub (h : FoOk p) {k v : Nat} (hv : IsMost p k v) {ys : List Nat} (e : ys.length = k) (hy : ∀ y ∈ ys, y < p.length) : (fndAll p ys).2.sum ≤ v := by
  rw [(fndAll_eq h hy).2]
  rcases hv with ⟨hr, rfl⟩ | ⟨_, xs, hl, hg, rfl⟩
  · rw [dm_allR hr, nroot_allR hr ys hy]; exact Nat.le_refl _
  · have := greedy_best h xs _ hg ys (by omega) hy
    have := nroot_le (p := p) ys
    rw [mk_mores]
    omega
theorem most_at (h : FoOk p) {k v : Nat} (hv : IsMost p k v) : v = 0 ∨ ∃ l ∈ asc p.length k, (fndAll p l).2.sum = v := by
  rcases hv with ⟨_, e⟩ | ⟨hn, xs, hl, hg, rfl⟩
  · exact .inl e
  · right
    obtain ⟨ys, e1, e2, e3⟩ := greedy_nr h hn k (fun _ => false)
    have hs := greedy_same h hg e2 (by omega)
    have pm := List.mergeSort_perm ys (fun a b => decide (a ≤ b))
    have hy := greedy_lt e2
    have hy' : ∀ y ∈ ys.mergeSort (fun a b => decide (a ≤ b)), y < p.length := fun y z => hy y (pm.mem_iff.mp z)
    have so : (ys.mergeSort (fun a b => decide (a ≤ b))).Pairwise (· ≤ ·) := by
      have := List.pairwise_mergeSort (le := fun a b : Nat => decide (a ≤ b)) (fun a b c h1 h2 => by simp at *; omega) (fun a b => by simp; omega) ys
      exact this.imp fun z => by simpa using z
    refine ⟨ys.mergeSort (fun a b => decide (a ≤ b)), ?_, ?_⟩
    · have := asc_mem _ so hy'
      rw [pm.length_eq, e1] at this
      exact this
    · rw [(fndAll_eq h hy').2, mk_congr (ys := ys) fun i => pm.mem_iff, mk_mores, ← hs, nroot_all fun x z => e3 x (pm.mem_iff.mp z), pm.length_eq, e1]
      omega
theorem most_grow (h : FoOk p) {k v w : Nat} (hn : ∃ i, i < p.length ∧ par p i ≠ i) (hv : IsMost p k v) (hw : IsMost p (k + 1) w) : v + 1 ≤ w := by
  rcases hv with ⟨hr, _⟩ | ⟨_, xs, hl, hg, rfl⟩
  · exact absurd hr (not_allR hn)
  rcases hw with ⟨hr, _⟩ | ⟨_, ys, hl', hg', rfl⟩
  · exact absurd hr (not_allR hn)
  obtain ⟨i, hi, _⟩ := hn
  have := greedy_best h ys _ hg' (xs ++ [i]) (by simp; omega) fun y hy => by
    rcases List.mem_append.mp hy with hy | hy
    · exact greedy_lt hg y hy
    · rw [List.mem_singleton.mp hy]; exact hi
  rw [mores_app, mores, mores, dm_more h (mores_ok h xs _ no_ok (greedy_lt hg)) hi] at this
  omega
theorem most_allR (hr : AllR p) {k v : Nat} (hv : IsMost p k v) : v = 0 := by
  rcases hv with ⟨_, e⟩ | ⟨hn, _⟩
  · exact e
  · exact absurd hr (not_allR hn)
end
end G

/-! GMostS: the gains never grow; greedy lists among the nodes that are no roots. Plain mathematics. -/
namespace G
section
variable {p : List Nat}
theorem gn_more {M : Nat → Bool} {i j : Nat} : gn p (more p M i) j ≤ gn p M j := by
  unfold gn
  refine List.countP_mono_left fun x _ hx => ?_
  unfold more at hx
  simp at hx ⊢
  exact ⟨hx.1.1, hx.2⟩
theorem most_dm (h : FoOk p) (hn : ∃ i, i < p.length ∧ par p i ≠ i) {k v : Nat} (hv : IsMost p k v) {xs : List Nat} (hx : Greedy p (fun _ => false) xs) (hl : xs.length = k) : v = k + dm p (mores p (fun _ => false) xs) := by
  rcases hv with ⟨hr, _⟩ | ⟨_, ys, hl', hg, rfl⟩
  · exact absurd hr (not_allR hn)
  · rw [greedy_same h hx hg (by omega)]
theorem most_step (h : FoOk p) {k u v w : Nat} (hu : IsMost p k u) (hv : IsMost p (k + 1) v) (hw : IsMost p (k + 2) w) : w + u ≤ v + v ∧ u ≤ v ∧ v ≤ w := by
  by_cases hr : AllR p
  · rw [most_allR hr hu, most_allR hr hv, most_allR hr hw]; omega
  have hn : ∃ i, i < p.length ∧ par p i ≠ i := by
    refine Classical.byContradiction fun z => hr fun i hi => Classical.byContradiction fun e => z ⟨i, hi, e⟩
  have g1 := most_grow h hn hu hv
  have g2 := most_grow h hn hv hw
  refine ⟨?_, by omega, by omega⟩
  obtain ⟨xs, l1, h1, _⟩ := greedy_nr h hn k (fun _ => false)
  have hx := greedy_lt h1
  obtain ⟨a, ha⟩ := best_ex (p := p) (by obtain ⟨i, hi, _⟩ := hn; omega) (mores p (fun _ => false) xs)
  have h2 := greedy_app h1 ha
  obtain ⟨b, hb⟩ := best_ex (p := p) (by obtain ⟨i, hi, _⟩ := hn; omega) (mores p (fun _ => false) (xs ++ [a]))
  have h3 := greedy_app h2 hb
  rw [most_dm h hn hu h1 l1, most_dm h hn hv h2 (by simp [l1]), most_dm h hn hw h3 (by simp [l1])]
  have hM := mores_ok h xs _ no_ok hx
  rw [mores_app _ [a]] at hb ⊢
  rw [mores_app _ [b], mores_app _ [a]]
  simp only [mores] at hb ⊢
  rw [dm_more h (more_ok h hM ha.1) hb.1, dm_more h hM ha.1]
  have e1 : gn p (more p (mores p (fun _ => false) xs) a) b ≤ gn p (mores p (fun _ => false) xs) a := Nat.le_trans gn_more (ha.2 b hb.1)
  unfold gn at e1
  omega
theorem most_line (h : FoOk p) {k v : Nat} (hv : IsMost p k v) {xs : List Nat} (hl : xs.length = k) (hx : Greedy p (fun _ => false) xs) (hr : ∀ x ∈ xs, par p x ≠ x) (hn : ∃ i, i < p.length ∧ par p i ≠ i) : (fndAll p xs).2.sum = v := by
  rw [(fndAll_eq h (greedy_lt hx)).2, mk_mores, nroot_all hr, most_dm h hn hv hx hl, hl]
  omega
/-- a best among the nodes that are no roots is a best one -/
theorem best_of_nr (h : FoOk p) {M : Nat → Bool} {g : Nat} (hg : g < p.length) (hb : ∀ i, i < p.length → par p i ≠ i → gn p M i ≤ gn p M g) : Best p M g := by
  refine ⟨hg, fun i hi => ?_⟩
  by_cases e : par p i = i
  · rw [gn_root h hi e]; exact Nat.zero_le _
  · exact hb i hi e
end
end G

/-! GUse: small helpers for the laws. -/
namespace G
open PySem (Str)
theorem compF {k : Nat} {grd : Cs → Prop} {σ : Sl} {tst elt : Sl → Cs → KD → Prop} {Q : List D → Cs → Prop} {cs : Cs} (g : Nat → D) (xs : List Nat) (hg : grd cs)
    (h : ∀ i ∈ xs, (∀ K : KD, K (.bl true) cs → tst (σ.set k (some (.int (i : Nat)))) cs K) ∧ (∀ K : KD, K (g i) cs → elt (σ.set k (some (.int (i : Nat)))) cs K)) (hl : xs.length ≤ 16777216) (hQ : Q (xs.map g) cs) :
    compL (.nm k) grd σ tst elt Q (nI xs) [] cs := by
  refine compL_map (fun d => match d with
    | .int i => g i.toNat
    | d => d) hg _ _ (fun d hd => ?_) (show _ ≤ 16777216 by simpa using hl) ?_
  · obtain ⟨i, hi, rfl⟩ := List.mem_map.mp hd
    exact ⟨_, rfl, (h i hi).1, (h i hi).2⟩
  · rw [List.nil_append]
    unfold nI
    rw [List.map_map]
    exact hQ
/-- trees that are equal -/
theorem sNe_refl {x : D} {cs : Cs} {Q : KD} {X : KX} (hx : deref cs x = x) (hp : pur 64 x = true) (hQ : Q (.bl false) cs) : sNe [x, x] cs Q X := by
  rw [sNe_e, hx, eqD_refl 64 _ hp]
  exact ⟨hp, hp, hQ⟩
theorem sEq_refl {x : D} {cs : Cs} {Q : KD} {X : KX} (hx : deref cs x = x) (hp : pur 64 x = true) (hQ : Q (.bl true) cs) : sEq [x, x] cs Q X := by
  rw [sEq_e, hx, eqD_refl 64 _ hp]
  exact ⟨hp, hp, hQ⟩
end G

/-! GMean: powers, greatest common divisors, weights, mean total costs. -/
namespace G
open PySem (Str)
theorem mulOkR {i j : Int} (h : -(2 ^ 64) < j ∧ j < 2 ^ 64) : mulOk i j := .inr (.inl h)
theorem mulOkL {i j : Int} (h : -(2 ^ 64) < i ∧ i < 2 ^ 64) : mulOk i j := .inl h
/-- powers with a base below 2 ^ 64 -/
def spPw : Spec := fun ds cs Q _ => ∃ b e : Int, ds = [.int b, .int e] ∧ -(2 ^ 64) < b ∧ b < 2 ^ 64 ∧ -(2 ^ 60) < e ∧ e < 2 ^ 60 ∧ Q (.int (b ^ e.toNat)) cs
theorem ok_pw : okFn 4 c_power_of spPw := by
  rintro ds cs Q X ⟨b, e, rfl, hb1, hb, he, he2, hQ⟩
  show wpS (.seq c_power_of_1 (.seq c_power_of_3 c_power_of_4)) [some (.int b), some (.int e), none, none] cs _
  simp only [wpS]
  rw [c_power_of_1, c_power_of_3]
  simp only [wpS, wpE, wpEs, bindP, getV, List.set]
  refine rng1_inv (fun j σ c => c = cs ∧ ∃ x, σ = [some (.int b), some (.int e), some (.int (b ^ j)), x]) (by omega) (by omega) ⟨rfl, none, by simp⟩ ?_ ?_
  · rintro j σ c hj ⟨rfl, x, rfl⟩ K' h1 h2 h3 h4 h5
    rw [c_power_of_2]
    simp
    rw [← Int.pow_succ]
    exact ⟨mulOkR ⟨hb1, hb⟩, h1 _ _ ⟨rfl, _, rfl⟩⟩
  · rintro σ c ⟨rfl, x, rfl⟩
    rw [c_power_of_4]
    simp
    exact hQ
/-- the greatest common divisor -/
def spGcd : Spec := fun ds cs Q _ => ∃ a b : Int, ds = [.int a, .int b] ∧ 0 < a ∧ 0 ≤ b ∧ Q (.int (Int.gcd a b : Nat)) cs
theorem gcd_step {a b : Int} (h : 0 < b) : Int.gcd b (a % b) = Int.gcd a b := by
  rw [Int.gcd_comm b]
  refine Nat.dvd_antisymm ?_ ?_
  · refine Int.dvd_gcd ?_ (Int.gcd_dvd_right _ _)
    have k : ((Int.gcd (a % b) b : Nat) : Int) ∣ a % b + b * (a / b) := Int.dvd_add (Int.gcd_dvd_left _ _) (Int.dvd_trans (Int.gcd_dvd_right _ _) (Int.dvd_mul_right _ _))
    rw [Int.emod_add_mul_ediv a b] at k
    exact k
  · refine Int.dvd_gcd ?_ (Int.gcd_dvd_right _ _)
    rw [Int.emod_def]
    exact Int.dvd_sub (Int.gcd_dvd_left _ _) (Int.dvd_trans (Int.gcd_dvd_right _ _) (Int.dvd_mul_right _ _))
theorem ok_gcd : okFn 2 c_common_divisor spGcd := by
  rintro ds cs Q X ⟨a, b, rfl, h0, h1, hQ⟩
  show wpS (.seq c_common_divisor_2 c_common_divisor_3) [some (.int a), some (.int b)] cs _
  simp only [wpS]
  rw [c_common_divisor_2]
  simp only [wpS]
  refine ⟨b.toNat + 1, whl_inv (fun m σ c => c = cs ∧ ∃ x y : Int, σ = [some (.int x), some (.int y)] ∧ 0 < x ∧ 0 ≤ y ∧ m = y.toNat ∧ Int.gcd x y = Int.gcd a b) ?_ _ b.toNat _ _ (by omega) ⟨rfl, a, b, rfl, h0, h1, rfl, rfl⟩⟩
  rintro m σ c ⟨rfl, x, y, rfl, hx, hy, rfl, hg⟩
  refine ⟨decide (0 < y), fun Q X h => ?_, fun e => ?_, fun e K' n1 n2 n3 n4 n5 => ?_⟩
  · simp only [wpE, wpEs, getV, sGt_i]
    exact h
  · have : y = 0 := by
      have := of_decide_eq_false e
      omega
    subst this
    rw [c_common_divisor_3]
    simp only [wpS, wpE, getV]
    rw [← hg] at hQ
    rw [Int.gcd_zero] at hQ
    rw [show ((x.natAbs : Nat) : Int) = x by omega] at hQ
    exact hQ
  · have hy := of_decide_eq_true e
    rw [c_common_divisor_1]
    simp only [wpS, wpE, wpEs, getV, sMod_i, sTup_e]
    refine ⟨hy, show 2 ≤ 16777216 by decide, ?_⟩
    simp only [bindP, List.set]
    have l1 := Int.emod_nonneg x (Int.ne_of_gt hy)
    have l2 := Int.emod_lt_of_pos x hy
    exact n1 _ _ _ (by omega) ⟨rfl, _, _, rfl, hy, l1, rfl, (gcd_step hy).trans hg⟩
def redD (a b : Int) : D := .tup [.int (a / (Int.gcd b a : Nat)), .int (b / (Int.gcd b a : Nat))]
theorem log2_le {a : Int} {n : Nat} (h : 0 ≤ a) (h1 : a < 2 ^ n) (h2 : n ≤ 9000) (hn : 0 < n): a.natAbs.log2 < 9000 := by
  have : a.natAbs < 2 ^ n := by
    have e : ((a.natAbs : Nat) : Int) = a := by omega
    have : ((a.natAbs : Nat) : Int) < ((2 ^ n : Nat) : Int) := by
      rw [e]
      simpa using h1
    omega
  by_cases z : a.natAbs = 0
  · rw [z]
    decide
  · have := (Nat.log2_lt z).mpr this
    omega
theorem gcd_le {a b : Int} (h : 0 < b) : ((Int.gcd b a : Nat) : Int) ≤ b ∧ 0 < ((Int.gcd b a : Nat) : Int) := by
  have d := Int.gcd_dvd_left b a
  have le := Int.le_of_dvd h d
  have p : 0 < Int.gcd b a := Int.gcd_pos_of_ne_zero_left _ (by omega)
  omega
/-- the law's own -/
def spRed : Spec := fun ds cs Q _ => ∃ a b : Int, ds = [.int a, .int b] ∧ 0 ≤ a ∧ 0 < b ∧ b < 2 ^ 8000 ∧ Q (redD a b) cs
theorem ok_red : okFn 4 c_l_reduced spRed := by
  rintro ds cs Q X ⟨a, b, rfl, h1, h0, hb, hQ⟩
  show wpS (.seq c_l_reduced_1 (.seq c_l_reduced_3 c_l_reduced_4)) [some (.int a), some (.int b), none, none] cs _
  simp only [wpS]
  rw [c_l_reduced_1]
  simp only [wpS, wpE, wpEs, getV, sTup_e]
  refine ⟨show 2 ≤ 16777216 by decide, ?_⟩
  simp only [bindP, List.set]
  rw [c_l_reduced_3]
  simp only [wpS]
  refine ⟨a.toNat + 1, whl_inv (fun m σ c => c = cs ∧ ∃ x y : Int, σ = [some (.int a), some (.int b), some (.int x), some (.int y)] ∧ 0 < x ∧ 0 ≤ y ∧ m = y.toNat ∧ Int.gcd x y = Int.gcd b a) ?_ _ a.toNat _ _ (by omega) ⟨rfl, b, a, rfl, h0, h1, rfl, rfl⟩⟩
  rintro m σ c ⟨rfl, x, y, rfl, hx, hy, rfl, hg⟩
  refine ⟨decide (0 < y), fun Q X h => ?_, fun e => ?_, fun e K' n1 n2 n3 n4 n5 => ?_⟩
  · simp only [wpE, wpEs, getV, sGt_i]
    exact h
  · have : y = 0 := by
      have := of_decide_eq_false e
      omega
    subst this
    rw [c_l_reduced_4]
    have ex : x = ((Int.gcd b a : Nat) : Int) := by
      rw [← hg, Int.gcd_zero]
      omega
    obtain ⟨g1, g2⟩ := gcd_le (a := a) h0
    have gl := log2_le (a := ((Int.gcd b a : Nat) : Int)) (n := 8000) (by omega) (Int.lt_of_le_of_lt g1 hb) (by omega) (by omega)
    simp only [wpS, wpE, wpEs, getV, sDiv_i, sTup_e]
    rw [ex]
    exact ⟨⟨g2, gl⟩, ⟨g2, gl⟩, show 2 ≤ 16777216 by decide, hQ⟩
  · have hy := of_decide_eq_true e
    rw [c_l_reduced_2]
    simp only [wpS, wpE, wpEs, getV, sMod_i, sTup_e]
    refine ⟨hy, show 2 ≤ 16777216 by decide, ?_⟩
    simp only [bindP, List.set]
    have l1 := Int.emod_nonneg x (Int.ne_of_gt hy)
    have l2 := Int.emod_lt_of_pos x hy
    exact n1 _ _ _ (by omega) ⟨rfl, _, _, rfl, hy, l1, rfl, (gcd_step hy).trans hg⟩
/-! ### weights -/
/-- no weights, or a dict of them -/
def wIn (x : D) (l : DL) (cs : Cs) : Prop := (x = .non ∧ l = []) ∨ ∃ n, x = .ref n ∧ cs n = some (dicO l)
def okKey (n : Nat) (k : Int) : Bool := decide (0 ≤ k) && decide (k < n)
def okVal (v : Int) : Bool := decide (1 ≤ v) && decide (v ≤ 1000)
/-- the weights as a table -/
def tbl (t : List (Int × Int)) : DL := t.map fun p => (.inl p.1, .int p.2)
def wOf (t : List (Int × Int)) (i : Nat) : Int := match t.find? fun p => decide (p.1 = (i : Int)) with
  | some p => p.2
  | none => 1
theorem wOf_val {t : List (Int × Int)} {i : Nat} : (valA (tbl t) (.inl (i : Int))).getD (.int 1) = .int (wOf t i) := by
  unfold valA wOf tbl
  induction t with
  | nil => rfl
  | cons p t ih =>
    rw [List.map_cons]
    by_cases e : p.1 = (i : Int)
    · rw [List.find?_cons_of_pos (by simp [e]), List.find?_cons_of_pos (by simp [e])]
      rfl
    · rw [List.find?_cons_of_neg (by simp [e]), List.find?_cons_of_neg (by simp [e])]
      exact ih
theorem valA_mem {t : List (Int × Int)} (nd : (t.map (·.1)).Nodup) {p : Int × Int} (h : p ∈ t) : valA (tbl t) (.inl p.1) = some (.int p.2) := by
  unfold valA tbl
  induction t with
  | nil => cases h
  | cons q t ih =>
    rw [List.map_cons] at nd ⊢
    rw [List.nodup_cons] at nd
    rcases List.mem_cons.mp h with e | h
    · subst e
      rw [List.find?_cons_of_pos (by simp)]
      rfl
    · have ne : q.1 ≠ p.1 := fun e => nd.1 (e ▸ List.mem_map.mpr ⟨p, h, rfl⟩)
      rw [List.find?_cons_of_neg (by simp [ne])]
      exact ih nd.2 h
/-- the least bad one -/
def Lst (b : Int → Prop) (ks : List Int) (v : Int) : Prop := v ∈ ks ∧ b v ∧ ∀ k ∈ ks, b k → v ≤ k
def wgtS (p : List Nat) (t : List (Int × Int)) (Q : Prop) (X : Er → Prop) : Prop :=
  ((∀ q ∈ t, okKey p.length q.1 = true ∧ okVal q.2 = true) ∧ Q) ∨
  (∃ v, Lst (fun k => okKey p.length k = false) (t.map (·.1)) v ∧ X (er "NoNode" "node" (.int v))) ∨
  ((∀ q ∈ t, okKey p.length q.1 = true) ∧ ∃ v, Lst (fun k => ∃ q ∈ t, q.1 = k ∧ okVal q.2 = false) (t.map (·.1)) v ∧ X (er "BadWeight" "node" (.int v)))
def manyD (p : List Nat) (t : List (Int × Int)) : List D := (List.range p.length).map fun i => .int (wOf t i)
def spWt : Spec := fun ds cs Q X => ∃ p x t, ds = [fD p, x] ∧ p.length ≤ 1000 ∧ wIn x (tbl t) cs ∧ (t.map (·.1)).Nodup ∧ t.length < 64 ∧ wgtS p t (Q (.lst (manyD p t)) cs) (fun e => X e cs)
/-- a loop that raises at the first bad one -/
theorem raise_loop {i : Nat} {grd : Cs → Prop} {body : Sl → Cs → Ends → Prop} {K : Ends} {cs : Cs} (b : Int → Prop) (sl : Option D → Sl) (hb : ∀ o d, (sl o).set i (some d) = sl (some d)) (hg : grd cs) (v : Int) :
    ∀ (ys : List Int) (o : Option D), ys.Pairwise (· ≤ ·) → v ∈ ys → b v → (∀ k ∈ ys, b k → v ≤ k) →
    (∀ y ∈ ys, ∀ K', K'.ex = K.ex → (¬ b y → K'.nx (sl (some (.int y))) cs) → (b y → y = v → body (sl (some (.int y))) cs K') ∧ (¬ b y → body (sl (some (.int y))) cs K')) →
    forL (.nm i) grd body K (ys.map D.int) (sl o) cs
  | [], o, _, hv, _, _, _ => by cases hv
  | y :: ys, o, hs, hv, hbv, hm, h => by
    rw [List.pairwise_cons] at hs
    refine ⟨hg, ?_⟩
    show body ((sl o).set i (some (.int y))) cs _
    rw [hb]
    by_cases e : b y
    · have ey : y = v := by
        have := hm y List.mem_cons_self e
        rcases List.mem_cons.mp hv with z | z
        · exact z.symm
        · have := hs.1 v z
          omega
      exact (h y List.mem_cons_self _ (by rfl) (by exact fun z => absurd e z)).1 e ey
    · have hv' : v ∈ ys := by
        rcases List.mem_cons.mp hv with z | z
        · subst z
          exact absurd hbv e
        · exact z
      exact (h y List.mem_cons_self _ (by rfl) (by exact fun _ => raise_loop b sl hb hg v ys _ hs.2 hv' hbv (fun k hk => hm k (List.mem_cons_of_mem _ hk)) (fun z hz => h z (List.mem_cons_of_mem _ hz)))).2 e
theorem pass_loop {i : Nat} {grd : Cs → Prop} {body : Sl → Cs → Ends → Prop} {K : Ends} {cs : Cs} (sl : Option D → Sl) (hb : ∀ o d, (sl o).set i (some d) = sl (some d)) (hg : grd cs) (hK : ∀ o, K.nx (sl o) cs) :
    ∀ (ys : List Int) (o : Option D), (∀ y ∈ ys, ∀ K', K'.nx (sl (some (.int y))) cs → body (sl (some (.int y))) cs K') → forL (.nm i) grd body K (ys.map D.int) (sl o) cs
  | [], o, _ => ⟨hg, hK o⟩
  | y :: ys, o, h => by
    refine ⟨hg, ?_⟩
    show body ((sl o).set i (some (.int y))) cs _
    rw [hb]
    exact h y List.mem_cons_self _ (pass_loop sl hb hg hK ys _ fun z hz => h z (List.mem_cons_of_mem _ hz))
theorem wIn_sort {x : D} {t : List (Int × Int)} {cs : Cs} {n : Nat} (hc : cs n = some (dicO (tbl t))) (h64 : t.length < 64) {Q : KD} {X : KX} (hQ : ∀ ys : List Int, ys.Perm (t.map (·.1)) → ys.Pairwise (· ≤ ·) → Q (.lst (ys.map D.int)) cs) : sSortD [.ref n] cs Q X :=
  ⟨n, _, t.map (·.1), rfl, hc, by simp [tbl], by simpa using h64, hQ⟩
theorem okKey_e {n : Nat} {k : Int} : okKey n k = true ↔ 0 ≤ k ∧ k < n := by simp [okKey]
theorem lst_perm {b : Int → Prop} {ks ys : List Int} {v : Int} (h : Lst b ks v) (hp : ys.Perm ks) : v ∈ ys ∧ b v ∧ ∀ k ∈ ys, b k → v ≤ k :=
  ⟨hp.mem_iff.mpr h.1, h.2.1, fun k hk => h.2.2 k (hp.mem_iff.mp hk)⟩
theorem wt_rest {p : List Nat} {x : D} {t : List (Int × Int)} {cs : Cs} {Q : KD} {X : KX} {n : Nat} (hl : p.length ≤ 1000) (hc : cs n = some (dicO (tbl t))) (nd : (t.map (·.1)).Nodup) (h64 : t.length < 64)
    (h : wgtS p t (Q (.lst (manyD p t)) cs) (fun e => X e cs)) :
    wpS (.seq c_check_weightsX_4 (.seq c_check_weightsX_7 c_check_weightsX_8)) [some (fD p), some x, some (.ref n), none] cs { nx := fun _ cs' => Q .non cs', rt := Q, ex := fun x _ cs' => X x cs' } := by
  simp only [wpS]
  rw [c_check_weightsX_4]
  simp only [wpS, wpE, wpEs, getV]
  refine wIn_sort (x := x) hc h64 fun ys h1 h2 => iSeq_e (.inl rfl) ?_
  have step : ∀ (y : Int) (K' : Ends), (okKey p.length y = true → K'.nx [some (fD p), some x, some (.ref n), some (.int y)] cs) → (okKey p.length y = false → K'.ex (er "NoNode" "node" (.int y)) [some (fD p), some x, some (.ref n), some (.int y)] cs) → wpS c_check_weightsX_3 [some (fD p), some x, some (.ref n), some (.int y)] cs K' := fun y K' k1 k2 => by
    rw [c_check_weightsX_3]
    simp only [wpS, wpE, wpEs, getV, len_fD, sLe_i, sLt_i]
    by_cases a : 0 ≤ y
    · by_cases b : y < p.length
      · simp only [decide_eq_true a, decide_eq_true b, if_true, sNot_e, Bool.not_true, Bool.false_eq_true, if_false]
        exact k1 (okKey_e.mpr ⟨a, b⟩)
      · simp only [decide_eq_true a, decide_eq_false b, if_true, sNot_e, Bool.not_false]
        rw [c_check_weightsX_2]
        simp only [wpS, wpE, wpEs, getV]
        exact k2 (by simp [okKey, b])
    · simp only [decide_eq_false a, Bool.false_eq_true, if_false, sNot_e, Bool.not_false, if_true]
      rw [c_check_weightsX_2]
      simp only [wpS, wpE, wpEs, getV]
      exact k2 (by simp [okKey, a])
  by_cases hk : ∀ q ∈ t, okKey p.length q.1 = true
  · have hky : ∀ y ∈ ys, okKey p.length y = true := fun y hy => by
      obtain ⟨q, hq, rfl⟩ := List.mem_map.mp (h1.mem_iff.mp hy)
      exact hk q hq
    refine pass_loop (fun o => [some (fD p), some x, some (.ref n), o]) (fun o d => rfl) trivial (fun o => ?_) ys none fun y hy K' k => step y K' (fun _ => k) fun e => by rw [hky y hy] at e; cases e
    clear step
    dsimp only
    rw [c_check_weightsX_7]
    simp only [wpS, wpE, wpEs, getV]
    refine wIn_sort (x := x) hc h64 fun ys h1 h2 => iSeq_e (.inl rfl) ?_
    have step : ∀ (y : Int) (K' : Ends), (∃ q ∈ t, q.1 = y ∧ (okVal q.2 = true → K'.nx [some (fD p), some x, some (.ref n), some (.int y)] cs) ∧ (okVal q.2 = false → K'.ex (er "BadWeight" "node" (.int y)) [some (fD p), some x, some (.ref n), some (.int y)] cs)) → wpS c_check_weightsX_6 [some (fD p), some x, some (.ref n), some (.int y)] cs K' := fun y K' ⟨q, hq, e, k1, k2⟩ => by
      rw [c_check_weightsX_6]
      simp only [wpS, wpE, wpEs, getV]
      subst e
      refine ⟨n, _, .inl q.1, .int q.2, rfl, hc, valA_mem nd hq, ?_⟩
      simp only [sLe_i]
      by_cases a : 1 ≤ q.2
      · by_cases b : q.2 ≤ 1000
        · simp only [decide_eq_true a, decide_eq_true b, if_true, sNot_e, Bool.not_true, Bool.false_eq_true, if_false]
          exact k1 (by simp [okVal, a, b])
        · simp only [decide_eq_true a, decide_eq_false b, if_true, sNot_e, Bool.not_false]
          rw [c_check_weightsX_5]
          simp only [wpS, wpE, wpEs, getV]
          exact k2 (by simp [okVal, b])
      · simp only [decide_eq_false a, Bool.false_eq_true, if_false, sNot_e, Bool.not_false, if_true]
        rw [c_check_weightsX_5]
        simp only [wpS, wpE, wpEs, getV]
        exact k2 (by simp [okVal, a])
    have inT : ∀ y ∈ ys, ∃ q ∈ t, q.1 = y := fun y hy => List.mem_map.mp (h1.mem_iff.mp hy)
    by_cases hv : ∀ q ∈ t, okVal q.2 = true
    · have hq : Q (.lst (manyD p t)) cs := by
        rcases h with h | ⟨v, hv', _⟩ | ⟨_, v, hv', _⟩
        · exact h.2
        · obtain ⟨q, hq, e⟩ := List.mem_map.mp hv'.1
          have := hk q hq
          have b := hv'.2.1
          rw [e] at this
          rw [this] at b
          cases b
        · obtain ⟨q, hq, e, b⟩ := hv'.2.1
          rw [hv q hq] at b
          cases b
      refine pass_loop (fun o => [some (fD p), some x, some (.ref n), o]) (fun o d => rfl) trivial (fun o => ?_) ys o fun y hy K' k => step y K' ?_
      · dsimp only
        rw [c_check_weightsX_8]
        simp only [wpS, wpE, wpEs, getV, len_fD]
        refine ⟨by omega, by omega, ?_⟩
        rw [rgD_nI]
        refine compF (fun i => .int (wOf t i)) _ trivial (fun i hi => ⟨fun K h => h, fun K hK => ?_⟩) (show _ ≤ 16777216 by simp; omega) ?_
        · simp only [wipe, List.set, getV]
          refine ⟨⟨n, _, rfl, hc⟩, n, _, .inl (i : Int), .int 1, rfl, hc, ?_⟩
          rw [wOf_val]
          exact hK
        · rw [if_neg Bool.false_ne_true]
          exact hq
      · obtain ⟨q, hq, e⟩ := inT y hy
        exact ⟨q, hq, e, fun _ => k, fun b => by rw [hv q hq] at b; cases b⟩
    · have ⟨v, hv', hX⟩ : ∃ v, Lst (fun k => ∃ q ∈ t, q.1 = k ∧ okVal q.2 = false) (t.map (·.1)) v ∧ X (er "BadWeight" "node" (.int v)) cs := by
        rcases h with h | ⟨v, hv', _⟩ | ⟨_, h⟩
        · exact absurd (fun q hq => (h.1 q hq).2) hv
        · obtain ⟨q, hq, e⟩ := List.mem_map.mp hv'.1
          have := hk q hq
          have b := hv'.2.1
          rw [e] at this
          rw [this] at b
          cases b
        · exact h
      obtain ⟨l1, l2, l3⟩ := lst_perm hv' h1
      refine raise_loop (fun k => ∃ q ∈ t, q.1 = k ∧ okVal q.2 = false) (fun o => [some (fD p), some x, some (.ref n), o]) (fun o d => rfl) trivial v ys o h2 l1 l2 l3 fun y hy K' ke kn => ⟨fun b e => ?_, fun b => ?_⟩
      · obtain ⟨q, hq, e1, e2⟩ := b
        refine step y K' ⟨q, hq, e1, fun z => (by rw [e2] at z; cases z), fun _ => ?_⟩
        rw [ke, e]
        exact hX
      · obtain ⟨q, hq, e1⟩ := inT y hy
        have e2 : okVal q.2 = true := by
          cases z : okVal q.2 with
          | true => rfl
          | false => exact absurd ⟨q, hq, e1, z⟩ b
        exact step y K' ⟨q, hq, e1, fun _ => kn b, fun z => by rw [e2] at z; cases z⟩
  · have ⟨v, hv', hX⟩ : ∃ v, Lst (fun k => okKey p.length k = false) (t.map (·.1)) v ∧ X (er "NoNode" "node" (.int v)) cs := by
      rcases h with h | h | ⟨h, _⟩
      · exact absurd (fun q hq => (h.1 q hq).1) hk
      · exact h
      · exact absurd h hk
    obtain ⟨l1, l2, l3⟩ := lst_perm hv' h1
    refine raise_loop (fun k => okKey p.length k = false) (fun o => [some (fD p), some x, some (.ref n), o]) (fun o d => rfl) trivial v ys none h2 l1 l2 l3 fun y hy K' ke kn => ⟨fun b e => ?_, fun b => ?_⟩
    · refine step y K' (fun z => by rw [show okKey p.length y = false from b] at z; cases z) fun _ => ?_
      rw [ke, e]
      exact hX
    · have e2 : okKey p.length y = true := by
        cases z : okKey p.length y with
        | true => rfl
        | false => exact absurd z b
      exact step y K' (fun _ => kn b) fun z => by rw [e2] at z; cases z
theorem ok_wgt : okFnL 4 c_check_weightsX spWt := by
  rintro ds cs Q X ⟨p, x, t, rfl, hl, hx, nd, h64, h⟩
  show wpS (.seq c_check_weightsX_1 (.seq c_check_weightsX_4 (.seq c_check_weightsX_7 c_check_weightsX_8))) [some (fD p), some x, none, none] cs _
  simp only [wpS]
  rw [c_check_weightsX_1]
  rcases hx with ⟨rfl, ht⟩ | ⟨n, rfl, hc⟩
  · simp only [wpS, wpE, wpEs, getV, sIsN_e, isN, if_true, bindP, List.set]
    refine ⟨rfl, fun n hn => ?_⟩
    have h' := wt_rest (x := .non) (Q := fun d c => ∃ cs', Le cs' c ∧ Q d cs') (X := fun e c => ∃ cs', Le cs' c ∧ X e cs') hl (cs := put cs n (dicO [])) (n := n) (t := t) (by rw [ht]; exact put_same) nd h64 ?_
    · simp only [wpS] at h'
      exact h'
    · rcases h with h | ⟨v, a, b⟩ | ⟨a, v, b, c⟩
      · exact .inl ⟨h.1, cs, (Le.refl _).put hn, h.2⟩
      · exact .inr (.inl ⟨v, a, cs, (Le.refl _).put hn, b⟩)
      · exact .inr (.inr ⟨a, v, b, cs, (Le.refl _).put hn, c⟩)
  · simp only [wpS, wpE, wpEs, getV, sIsN_e, isN, Bool.false_eq_true, if_false, bindP, List.set]
    have h' := wt_rest (x := .ref n) (Q := fun d c => ∃ cs', Le cs' c ∧ Q d cs') (X := fun e c => ∃ cs', Le cs' c ∧ X e cs') hl hc nd h64 ?_
    · simp only [wpS] at h'
      exact h'
    · rcases h with h | ⟨v, a, b⟩ | ⟨a, v, b, c⟩
      · exact .inl ⟨h.1, cs, Le.refl _, h.2⟩
      · exact .inr (.inl ⟨v, a, cs, Le.refl _, b⟩)
      · exact .inr (.inr ⟨a, v, b, cs, Le.refl _, c⟩)
/-! ### the mean -/
def wsum (w : Nat → Int) (xs : List Nat) : Int := (xs.map w).sum
theorem wsum_nn {w : Nat → Int} {xs : List Nat} (h : ∀ i ∈ xs, 0 ≤ w i) : 0 ≤ wsum w xs := by
  induction xs with
  | nil => exact Int.le_refl _
  | cons x xs ih =>
    show 0 ≤ (List.map w (x :: xs)).sum
    rw [List.map_cons, List.sum_cons]
    have := h x List.mem_cons_self
    have := ih fun i hi => h i (List.mem_cons_of_mem _ hi)
    unfold wsum at this
    omega
theorem wsum_split {w : Nat → Int} {f : Nat → Bool} : ∀ {xs : List Nat}, wsum w (xs.filter f) + wsum w (xs.filter fun i => !f i) = wsum w xs
  | [] => rfl
  | x :: xs => by
    have ih := wsum_split (w := w) (f := f) (xs := xs)
    unfold wsum at ih ⊢
    rw [List.map_cons, List.sum_cons]
    cases e : f x with
    | true =>
      rw [List.filter_cons_of_pos e, List.filter_cons_of_neg (by simp [e]), List.map_cons, List.sum_cons]
      omega
    | false =>
      rw [List.filter_cons_of_neg (by simp [e]), List.filter_cons_of_pos (by simp [e]), List.map_cons, List.sum_cons]
      omega
theorem wsum_le {w : Nat → Int} {b : Int} (hw : ∀ i, w i ≤ b) : ∀ {xs : List Nat}, wsum w xs ≤ b * (xs.length : Nat)
  | [] => by simp [wsum]
  | x :: xs => by
    have ih := wsum_le (b := b) hw (xs := xs)
    have := hw x
    unfold wsum at ih ⊢
    rw [List.map_cons, List.sum_cons, List.length_cons]
    have e : b * ((xs.length + 1 : Nat) : Int) = b * (xs.length : Nat) + b := by
      rw [Int.natCast_add, Int.mul_add]
      simp
    rw [e]
    omega
theorem sum_i {f : Nat → Int} {xs : List Nat} {cs : Cs} {Q : KD} {X : KX} (hQ : Q (.int (xs.map f).sum) cs) : sSum [.lst (xs.map fun i => D.int (f i))] cs Q X := by
  have e : asInts (xs.map fun i => D.int (f i)) = some (xs.map f) := by
    have := asInts_map (xs.map f)
    rw [List.map_map] at this
    exact this
  show (match asInts (xs.map fun i => D.int (f i)) with
    | some bs => Q (.int bs.sum) cs
    | none => False)
  rw [e]
  exact hQ
theorem pow_le {a b : Int} (h : 0 ≤ a) (k : a ≤ b) : ∀ n : Nat, a ^ n ≤ b ^ n ∧ 0 ≤ a ^ n
  | 0 => by simp
  | n + 1 => by
    obtain ⟨h1, h2⟩ := pow_le h k n
    rw [Int.pow_succ, Int.pow_succ]
    exact ⟨Int.mul_le_mul h1 k h (by omega), Int.mul_nonneg h2 h⟩
theorem pow_pos' {a : Int} (h : 0 < a) : ∀ n : Nat, 0 < a ^ n
  | 0 => by simp
  | n + 1 => by
    rw [Int.pow_succ]
    exact Int.mul_pos (pow_pos' h n) h
def whl (p : List Nat) (w : Nat → Int) : Int := wsum w (List.range p.length)
def mis (p : List Nat) (w : Nat → Int) (i : Nat) : Int := whl p w - wsum w (sub p i)
def nrt (p : List Nat) (i : Nat) : Bool := decide (par p i ≠ i)
def dpT (p : List Nat) (k : Nat) (w : Nat → Int) (i : Nat) : Int := if 1 < cst p i then whl p w ^ k - mis p w i ^ k else 0
def numI (p : List Nat) (k : Nat) (w : Nat → Int) : Int := (k : Nat) * wsum w ((List.range p.length).filter (nrt p)) * whl p w ^ (k - 1) + ((List.range p.length).map (dpT p k w)).sum
def meanD (p : List Nat) (k : Nat) (w : Nat → Int) : D := if k = 0 ∨ p = [] then .tup [.int 0, .int 1] else redD (numI p k w) (whl p w ^ k)
section
variable {p : List Nat} {w : Nat → Int} {k : Nat}
theorem mis_eq {i : Nat} : mis p w i = wsum w ((List.range p.length).filter fun j => decide (i ∉ path p j)) := by
  unfold mis whl sub
  have := wsum_split (w := w) (f := fun j => decide (i ∈ path p j)) (xs := List.range p.length)
  have e : ((List.range p.length).filter fun j => !decide (i ∈ path p j)) = (List.range p.length).filter fun j => decide (i ∉ path p j) := by
    refine List.filter_congr fun j _ => ?_
    simp
  rw [e] at this
  omega
theorem whl_pos (hw : ∀ i, 1 ≤ w i) (h : p ≠ []) : 0 < whl p w := by
  cases p with
  | nil => exact absurd rfl h
  | cons a q =>
    unfold whl wsum
    rw [List.length_cons, List.range_succ_eq_map, List.map_cons, List.sum_cons, List.map_map]
    have := wsum_nn (w := w ∘ Nat.succ) (xs := List.range q.length) fun i _ => by have := hw (i + 1); show 0 ≤ w (i + 1); omega
    unfold wsum at this
    have := hw 0
    omega
theorem mis_nn (hw : ∀ i, 1 ≤ w i) {i : Nat} : 0 ≤ mis p w i ∧ mis p w i ≤ whl p w := by
  refine ⟨?_, ?_⟩
  · rw [mis_eq]
    exact wsum_nn fun j _ => by have := hw j; omega
  · unfold mis
    have := wsum_nn (w := w) (xs := sub p i) fun j _ => by have := hw j; omega
    omega
theorem sum_nn {f : Nat → Int} {xs : List Nat} (h : ∀ i ∈ xs, 0 ≤ f i) : 0 ≤ (xs.map f).sum := wsum_nn h
theorem dpT_nn (hw : ∀ i, 1 ≤ w i) {i : Nat} : 0 ≤ dpT p k w i := by
  unfold dpT
  split
  · obtain ⟨h1, h2⟩ := mis_nn (p := p) hw (i := i)
    have := (pow_le h1 h2 k).1
    omega
  · exact Int.le_refl _
theorem numI_nn (hw : ∀ i, 1 ≤ w i) : 0 ≤ numI p k w := by
  unfold numI
  have a := sum_nn (f := dpT p k w) (xs := List.range p.length) fun i _ => dpT_nn hw
  have b := wsum_nn (w := w) (xs := (List.range p.length).filter (nrt p)) fun i _ => by have := hw i; omega
  have c : 0 ≤ whl p w := wsum_nn fun i _ => by have := hw i; omega
  have d := (pow_le c (Int.le_refl _) (k - 1)).2
  have e := Int.mul_nonneg (Int.mul_nonneg (Int.natCast_nonneg k) b) d
  omega
theorem whl_le (hw : ∀ i, w i ≤ 1000) (hl : p.length ≤ 60) : whl p w ≤ 60000 := by
  have := wsum_le (b := 1000) hw (xs := List.range p.length)
  rw [List.length_range] at this
  unfold whl
  omega
theorem den_lt (h1 : ∀ i, 1 ≤ w i) (hw : ∀ i, w i ≤ 1000) (hl : p.length ≤ 60) (hk : k ≤ 20) : whl p w ^ k < 2 ^ 8000 := by
  have c : 0 ≤ whl p w := wsum_nn fun i _ => by have := h1 i; omega
  have a := (pow_le c (Int.le_trans (whl_le hw hl) (show (60000 : Int) ≤ 2 ^ 16 by decide)) k).1
  have e : ((2 : Int) ^ 16) ^ k = 2 ^ (16 * k) := Int.pow_mul.symm
  have f : (2 : Int) ^ (16 * k) ≤ 2 ^ 320 := by
    have : (2 : Nat) ^ (16 * k) ≤ 2 ^ 320 := Nat.pow_le_pow_right (by decide) (by omega)
    have z : ((2 ^ (16 * k) : Nat) : Int) ≤ ((2 ^ 320 : Nat) : Int) := Int.ofNat_le.mpr this
    simpa using z
  rw [e] at a
  exact Int.lt_of_le_of_lt (Int.le_trans a f) (by decide +kernel)
end
theorem wOf_in {n : Nat} {t : List (Int × Int)} (h : ∀ q ∈ t, okKey n q.1 = true ∧ okVal q.2 = true) (i : Nat) : 1 ≤ wOf t i ∧ wOf t i ≤ 1000 := by
  unfold wOf
  split
  · rename_i q e
    have := (h q (List.mem_of_find?_eq_some e)).2
    simp [okVal] at this
    exact this
  · decide
theorem comp_enF {p : List Nat} {a b : Nat} {σ : Sl} {tst elt : Sl → Cs → KD → Prop} {Q : List D → Cs → Prop} {cs : Cs} {grd : Cs → Prop} (f : Nat → Bool) (g : Nat → D) (hg : grd cs) (hl : p.length ≤ 1000)
    (h : ∀ c, c < p.length → (∀ K : KD, K (.bl (f c)) cs → tst ((σ.set a (some (.int (c : Nat)))).set b (some (.int (par p c : Nat)))) cs K) ∧ ∀ K : KD, K (g c) cs → elt ((σ.set a (some (.int (c : Nat)))).set b (some (.int (par p c : Nat)))) cs K)
    (hQ : Q (((List.range p.length).filter f).map g) cs) : compL (.tup (.cons (.nm a) (.cons (.nm b) .nil))) grd σ tst elt Q (enumD 0 (nI p)) [] cs := by
  rw [enumD_nI]
  refine compL_pure (fun d => match d with
    | .tup [.int v, _] => f v.toNat
    | _ => false) (fun d => match d with
    | .tup [.int v, _] => g v.toNat
    | d => d) hg _ _ (fun d hd => ?_) (show _ ≤ 16777216 by simp; omega) ?_
  · obtain ⟨c, hc, e⟩ := List.mem_map.mp hd
    subst e
    have hc := List.mem_range.mp hc
    obtain ⟨h1, h2⟩ := h c hc
    exact ⟨_, rfl, fun K hK => h1 K hK, fun _ K hK => h2 K hK⟩
  · have e : ((List.range p.length).map fun i => D.tup [.int (i : Nat), .int (par p i : Nat)]).filter (fun d => match d with
        | .tup [.int v, _] => f v.toNat
        | _ => false) = ((List.range p.length).filter f).map fun i => D.tup [.int (i : Nat), .int (par p i : Nat)] := by
      rw [List.filter_map]
      rfl
    rw [List.nil_append, e, List.map_map]
    exact hQ
theorem range_sum {f : Nat → Int} {j : Nat} : ((List.range (j + 1)).map f).sum = ((List.range j).map f).sum + f j := by
  rw [List.range_succ, List.map_append, List.sum_append]
  simp
def wPre (x : D) (t : List (Int × Int)) (cs : Cs) : Prop := wIn x (tbl t) cs ∧ (t.map (·.1)).Nodup ∧ t.length < 64
def spTm : Spec := fun ds cs Q X => ∃ m : Int, ds = [.int m] ∧ (0 ≤ m ∧ m ≤ 20 → Q .non cs) ∧ (¬ (0 ≤ m ∧ m ≤ 20) → X (er "BadCount" "count" (.int m)) cs)
theorem ok_tm : okFn 1 c_check_timesX spTm := by
  rintro ds cs Q X ⟨m, rfl, h1, h2⟩
  show wpS c_check_timesX_2 [some (.int m)] cs _
  rw [c_check_timesX_2]
  simp only [wpS, wpE, wpEs, getV, sLe_i]
  by_cases a : 0 ≤ m
  · by_cases b : m ≤ 20
    · simp only [decide_eq_true a, decide_eq_true b, if_true, sNot_e, Bool.not_true, Bool.false_eq_true, if_false]
      exact h1 ⟨a, b⟩
    · simp only [decide_eq_true a, decide_eq_false b, if_true, sNot_e, Bool.not_false]
      rw [c_check_timesX_1]
      simp only [wpS, wpE, wpEs, getV]
      exact h2 fun z => b z.2
  · simp only [decide_eq_false a, Bool.false_eq_true, if_false, sNot_e, Bool.not_false, if_true]
    rw [c_check_timesX_1]
    simp only [wpS, wpE, wpEs, getV]
    exact h2 fun z => a z.1
/-- the mean total cost -/
def spMn : Spec := fun ds cs Q X => ∃ p m x t, ds = [fD p, .int m, x] ∧ FoOk p ∧ p.length ≤ 60 ∧ ((¬ (0 ≤ m ∧ m ≤ 20) ∧ X (er "BadCount" "count" (.int m)) cs) ∨
  (0 ≤ m ∧ m ≤ 20 ∧ wPre x t cs ∧ wgtS p t (Q (meanD p m.toNat (wOf t)) cs) (fun e => X e cs)))
theorem many_ix {p : List Nat} {t : List (Int × Int)} {i : Nat} (hi : i < p.length) : ix (manyD p t) (i : Int) = some (.int (wOf t i)) := by
  refine ix_nat ?_
  unfold manyD
  rw [List.getElem?_map, List.getElem?_range hi]
  rfl
theorem whl_0 {p : List Nat} {w : Nat → Int} (h : p = []) : whl p w = 0 := by subst h; rfl
theorem mn_rest (A B : Spec) {p : List Nat} {m : Int} {x : D} {t : List (Int × Int)} {cs : Cs} {Q : KD} {X : KX} (h : FoOk p) (hl : p.length ≤ 60) (hm : 0 ≤ m ∧ m ≤ 20) (hok : ∀ q ∈ t, okKey p.length q.1 = true ∧ okVal q.2 = true) (hQ : Q (meanD p m.toNat (wOf t)) cs) :
    wpS (.seq (c_mean_total_3 A B spGcd spDep spPw spSub) (.seq (c_mean_total_5 A B spGcd spDep spPw spSub) (.seq (c_mean_total_6 A B spGcd spDep spPw spSub) (.seq (c_mean_total_7 A B spGcd spDep spPw spSub) (.seq (c_mean_total_11 A B spGcd spDep spPw spSub) (.seq (c_mean_total_12 A B spGcd spDep spPw spSub) (c_mean_total_13 A B spGcd spDep spPw spSub))))))) [some (fD p), some (.int m), some x, some (.lst (manyD p t)), none, none, none, none, none, none, none, none] cs { nx := fun _ cs' => Q .non cs', rt := Q, ex := fun x _ cs' => X x cs' } := by
  have hw := wOf_in hok
  have h1 : ∀ i, 1 ≤ wOf t i := fun i => (hw i).1
  have h2 : ∀ i, wOf t i ≤ 1000 := fun i => (hw i).2
  generalize ew : wOf t = w at hQ h1 h2
  have em : manyD p t = (List.range p.length).map fun i => .int (w i) := by unfold manyD; rw [ew]
  have mix : ∀ i, i < p.length → ix (manyD p t) (i : Int) = some (.int (w i)) := fun i hi => by rw [many_ix hi, ew]
  simp only [wpS]
  rw [c_mean_total_3]
  simp only [wpS, wpE, wpEs, getV]
  rw [em]
  refine sum_i ?_
  show wpS _ [some (fD p), some (.int m), some x, some (.lst ((List.range p.length).map fun i => .int (w i))), some (.int (whl p w)), none, none, none, none, none, none, none] cs _
  rw [← em, c_mean_total_5]
  obtain ⟨hm0, hm1⟩ := hm
  obtain ⟨k, rfl⟩ : ∃ k : Nat, m = (k : Int) := ⟨m.toNat, by omega⟩
  have ek : ((k : Int)).toNat = k := Int.toNat_natCast k
  rw [ek] at hQ
  simp only [wpS, wpE, wpEs, getV, sEq_i]
  by_cases e0 : k = 0 ∨ p = []
  · have hm : meanD p k w = .tup [.int 0, .int 1] := if_pos e0
    rw [hm] at hQ
    have fin : wpS (c_mean_total_4 A B spGcd spDep spPw spSub) [some (fD p), some (.int (k : Int)), some x, some (.lst (manyD p t)), some (.int (whl p w)), none, none, none, none, none, none, none] cs { nx := fun σ' cs' => True, rt := Q, ex := fun x _ cs' => X x cs' } := by
      rw [c_mean_total_4]
      simp only [wpS, wpE, wpEs, sTup_e]
      exact ⟨show 2 ≤ 16777216 by decide, hQ⟩
    rw [c_mean_total_4] at fin ⊢
    simp only [wpS, wpE, wpEs, sTup_e] at fin ⊢
    rcases e0 with e0 | e0
    · subst e0
      simp
      exact ⟨show 2 ≤ 16777216 by decide, hQ⟩
    · rw [whl_0 e0]
      by_cases z : k = 0
      · subst z
        simp
        exact ⟨show 2 ≤ 16777216 by decide, hQ⟩
      · have : ((k : Int) == 0) = false := by simp [z]
        simp [this]
        exact ⟨show 2 ≤ 16777216 by decide, hQ⟩
  have k0 : k ≠ 0 := fun z => e0 (.inl z)
  have p0 : p ≠ [] := fun z => e0 (.inr z)
  have hmd : meanD p k w = redD (numI p k w) (whl p w ^ k) := if_neg e0
  rw [hmd] at hQ
  have wp := whl_pos h1 p0
  have wl := whl_le h2 hl
  have b1 : ((k : Int) == 0) = false := by simp [k0]
  have b2 : (whl p w == 0) = false := by simp; omega
  simp only [b1, b2, Bool.false_eq_true, if_false]
  rw [c_mean_total_6]
  simp only [wpS, wpE, wpEs, bindP, getV, List.set]
  refine ⟨_, _, rfl, by omega, by omega, by omega, by omega, ?_⟩
  rw [ek]
  rw [c_mean_total_7]
  simp only [wpS, wpE, wpEs, getV]
  refine comp_enF (nrt p) (fun i => .int (w i)) trivial (by omega) (fun c hc => ⟨fun K hK => ?_, fun K hK => ?_⟩) ?_
  · simp only [wipe, List.set, getV, sNe_i]
    have e : (!(((par p c : Nat) : Int) == (c : Nat))) = nrt p c := by
      unfold nrt
      rw [beqN]
      by_cases z : par p c = c <;> simp [z]
    rw [e]
    exact hK
  · simp only [wipe, List.set, getV]
    rw [sIx_l (xs := manyD p t) rfl (mix c hc)]
    exact hK
  rw [if_neg Bool.false_ne_true]
  refine sum_i ?_
  simp only [sMul_i, sSub_i]
  have wsl : (wsum w ((List.range p.length).filter (nrt p))) ≤ 60000 := by
    have := wsum_le (b := 1000) h2 (xs := (List.range p.length).filter (nrt p))
    have l := List.length_filter_le (nrt p) (List.range p.length)
    rw [List.length_range] at l
    omega
  have wsn : 0 ≤ (wsum w ((List.range p.length).filter (nrt p))) := wsum_nn fun i _ => by have := h1 i; omega
  refine ⟨mulOkL ⟨by omega, by omega⟩, _, _, rfl, by omega, by omega, by omega, by omega, ?_⟩
  have ek1 : ((k : Int) - 1).toNat = k - 1 := by omega
  rw [ek1]
  refine ⟨mulOkL ?_, ?_⟩
  · show -(2 ^ 64) < (k : Int) * wsum w ((List.range p.length).filter (nrt p)) ∧ (k : Int) * wsum w ((List.range p.length).filter (nrt p)) < 2 ^ 64
    have a : (k : Int) * wsum w ((List.range p.length).filter (nrt p)) ≤ 20 * 60000 := Int.mul_le_mul (by omega) wsl wsn (by decide)
    have b := Int.mul_nonneg (Int.natCast_nonneg k) wsn
    omega
  rw [c_mean_total_11]
  simp only [wpS, wpE, wpEs, getV, len_fD, bindP, List.set]
  refine rng1_inv (fun j σ c => c = cs ∧ j ≤ p.length ∧ ∃ a6 a8 : Option D, σ = [some (fD p), some (.int (k : Int)), some x, some (.lst (manyD p t)), some (.int (whl p w)), some (.int (whl p w ^ k)), a6, some (.int ((k : Nat) * wsum w ((List.range p.length).filter (nrt p)) * whl p w ^ (k - 1) + ((List.range j).map (dpT p k w)).sum)), a8, none, none, none]) (by omega) (by omega) ⟨rfl, Nat.zero_le _, none, none, ?_⟩ ?_ ?_
  · simp only [List.range_zero, List.map_nil, List.sum_nil, Int.add_zero]
    rfl
  · rintro j σ c hj ⟨rfl, _, a6, a8, rfl⟩ K' n1 n2 n3 n4 n5
    have hj : j < p.length := by omega
    rw [c_mean_total_10]
    simp only [wpS, wpE, wpEs, getV, List.set]
    refine spDep_e h hj (by omega) ?_
    rw [sGt_i]
    have e : decide ((1 : Int) < ((cst p j : Nat) : Int)) = decide (1 < cst p j) := decide_eq_decide.mpr (by omega)
    rw [e]
    by_cases z : 1 < cst p j
    · simp only [decide_eq_true z, if_true]
      rw [c_mean_total_8]
      simp only [wpS, wpE, wpEs, getV]
      refine spSub_e h hj (by omega) ?_
      have sl : (sub p j).length ≤ p.length := Nat.le_trans (List.length_filter_le _ _) (by simp)
      refine iSeq_e (.inl rfl) (compF (fun i => .int (w i)) _ trivial (fun i hi => ⟨fun K h => h, fun K hK => ?_⟩) (by omega) ?_)
      · simp only [wipe, List.set, getV]
        have hi : i < p.length := List.mem_range.mp (List.mem_filter.mp hi).1
        rw [sIx_l (xs := manyD p t) rfl (mix i hi)]
        exact hK
      rw [if_neg Bool.false_ne_true]
      refine sum_i ?_
      simp only [sSub_i, bindP, List.set]
      rw [c_mean_total_9]
      simp only [wpS, wpE, wpEs, getV]
      obtain ⟨m1, m2⟩ := mis_nn (p := p) (w := w) h1 (i := j)
      refine ⟨_, _, rfl, ?_, ?_, by omega, by omega, ?_⟩
      · show -(2 ^ 64) < mis p w j
        omega
      · show mis p w j < 2 ^ 64
        omega
      rw [ek]
      simp only [sSub_i]
      refine ⟨trivial, ?_⟩
      simp only [bindP, List.set]
      refine n1 _ _ ⟨rfl, by omega, some (.int (j : Nat)), some (.int (mis p w j)), ?_⟩
      rw [range_sum]
      have : dpT p k w j = whl p w ^ k - mis p w j ^ k := if_pos z
      rw [this, ← Int.add_assoc]
      rfl
    · simp only [decide_eq_false z, Bool.false_eq_true, if_false]
      refine n1 _ _ ⟨rfl, by omega, some (.int (j : Nat)), a8, ?_⟩
      rw [range_sum]
      have : dpT p k w j = 0 := if_neg z
      rw [this, Int.add_zero]
  · rintro σ c ⟨rfl, _, a6, a8, rfl⟩
    rw [c_mean_total_12]
    have ej : ((p.length : Nat) : Int).toNat = p.length := Int.toNat_natCast _
    simp only [wpS, wpE, wpEs, getV, ej]
    have en : (k : Int) * wsum w ((List.range p.length).filter (nrt p)) * whl p w ^ (k - 1) + ((List.range p.length).map (dpT p k w)).sum = numI p k w := rfl
    have nn := numI_nn (p := p) (k := k) h1
    have dp := pow_pos' wp k
    rw [en]
    refine ⟨_, _, rfl, dp, nn, ?_⟩
    rw [c_mean_total_13]
    simp only [wpS, wpE, wpEs, getV, bindP, List.set, sDiv_i]
    obtain ⟨g1, g2⟩ := gcd_le (a := numI p k w) dp
    have gl := log2_le (a := ((Int.gcd (whl p w ^ k) (numI p k w) : Nat) : Int)) (n := 8000) (by omega) (Int.lt_of_le_of_lt g1 (den_lt h1 h2 hl (by omega))) (by omega) (by omega)
    exact ⟨⟨g2, gl⟩, ⟨g2, gl⟩, show 2 ≤ 16777216 by decide, hQ⟩
theorem ok_mn : okFn 12 (c_mean_total spTm spWt spGcd spDep spPw spSub) spMn := by
  rintro ds cs Q X ⟨p, m, x, t, rfl, h, hl, hh⟩
  show wpS (.seq (c_mean_total_1 spTm spWt spGcd spDep spPw spSub) (.seq (c_mean_total_2 spTm spWt spGcd spDep spPw spSub) (.seq (c_mean_total_3 spTm spWt spGcd spDep spPw spSub) (.seq (c_mean_total_5 spTm spWt spGcd spDep spPw spSub) (.seq (c_mean_total_6 spTm spWt spGcd spDep spPw spSub) (.seq (c_mean_total_7 spTm spWt spGcd spDep spPw spSub) (.seq (c_mean_total_11 spTm spWt spGcd spDep spPw spSub) (.seq (c_mean_total_12 spTm spWt spGcd spDep spPw spSub) (c_mean_total_13 spTm spWt spGcd spDep spPw spSub))))))))) [some (fD p), some (.int m), some x, none, none, none, none, none, none, none, none, none] cs _
  simp only [wpS]
  rw [c_mean_total_1]
  simp only [wpS, wpE, wpEs, getV]
  refine ⟨m, rfl, fun hm => ?_, fun hm => ?_⟩
  rotate_left
  · rcases hh with hh | hh
    · exact hh.2
    · exact absurd ⟨hh.1, hh.2.1⟩ hm
  have hh : wPre x t cs ∧ wgtS p t (Q (meanD p m.toNat (wOf t)) cs) (fun e => X e cs) := by
    rcases hh with hh | hh
    · exact absurd hm hh.1
    · exact hh.2.2
  obtain ⟨⟨w1, w2, w3⟩, hh⟩ := hh
  rw [c_mean_total_2]
  simp only [wpS, wpE, wpEs, getV]
  refine ⟨p, x, t, rfl, by omega, w1, w2, w3, ?_⟩
  rcases hh with ⟨hok, hQ⟩ | hh | hh
  rotate_left
  · exact .inr (.inl hh)
  · exact .inr (.inr hh)
  refine .inl ⟨hok, ?_⟩
  have := mn_rest spTm spWt (x := x) (X := X) h hl hm hok hQ
  simp only [wpS] at this
  simp only [bindP, List.set]
  exact this
/-! the same without errors -/
def spTm0 : Spec := fun ds cs Q _ => ∃ m : Int, ds = [.int m] ∧ 0 ≤ m ∧ m ≤ 20 ∧ Q .non cs
theorem ok_tm0 : okFn 1 c_check_times spTm0 := by
  rintro ds cs Q X ⟨m, rfl, h1, h2, hQ⟩
  show wpS c_check_times_1 [some (.int m)] cs _
  rw [c_check_times_1]
  simp only [wpS, wpE, wpEs, getV, sLe_i, decide_eq_true h1, decide_eq_true h2, if_true, sNot_e, Bool.not_true, Bool.false_eq_true, if_false]
  exact hQ
def spWt0 : Spec := fun ds cs Q _ => ∃ p x t, ds = [fD p, x] ∧ p.length ≤ 1000 ∧ wIn x (tbl t) cs ∧ (t.map (·.1)).Nodup ∧ t.length < 64 ∧ (∀ q ∈ t, okKey p.length q.1 = true ∧ okVal q.2 = true) ∧ Q (.lst (manyD p t)) cs
theorem wt0_rest {p : List Nat} {x : D} {t : List (Int × Int)} {cs : Cs} {Q : KD} {X : KX} {n : Nat} (hl : p.length ≤ 1000) (hc : cs n = some (dicO (tbl t))) (nd : (t.map (·.1)).Nodup) (h64 : t.length < 64)
    (hok : ∀ q ∈ t, okKey p.length q.1 = true ∧ okVal q.2 = true) (hQ : Q (.lst (manyD p t)) cs) :
    wpS (.seq c_check_weights_3 (.seq c_check_weights_5 c_check_weights_6)) [some (fD p), some x, some (.ref n), none] cs { nx := fun _ cs' => Q .non cs', rt := Q, ex := fun x _ cs' => X x cs' } := by
  simp only [wpS]
  rw [c_check_weights_3]
  simp only [wpS, wpE, wpEs, getV]
  refine wIn_sort (x := x) hc h64 fun ys h1 h2 => iSeq_e (.inl rfl) ?_
  have inT : ∀ {ys : List Int}, ys.Perm (t.map (·.1)) → ∀ y ∈ ys, ∃ q ∈ t, q.1 = y := fun h1 y hy => List.mem_map.mp (h1.mem_iff.mp hy)
  refine pass_loop (fun o => [some (fD p), some x, some (.ref n), o]) (fun o d => rfl) trivial (fun o => ?_) ys none fun y hy K' k => ?_
  · dsimp only
    rw [c_check_weights_5]
    simp only [wpS, wpE, wpEs, getV]
    refine wIn_sort (x := x) hc h64 fun ys h1 h2 => iSeq_e (.inl rfl) ?_
    refine pass_loop (fun o => [some (fD p), some x, some (.ref n), o]) (fun o d => rfl) trivial (fun o => ?_) ys o fun y hy K' k => ?_
    · dsimp only
      rw [c_check_weights_6]
      simp only [wpS, wpE, wpEs, getV, len_fD]
      refine ⟨by omega, by omega, ?_⟩
      rw [rgD_nI]
      refine compF (fun i => .int (wOf t i)) _ trivial (fun i hi => ⟨fun K h => h, fun K hK => ?_⟩) (show _ ≤ 16777216 by simp; omega) ?_
      · simp only [wipe, List.set, getV]
        refine ⟨⟨n, _, rfl, hc⟩, n, _, .inl (i : Int), .int 1, rfl, hc, ?_⟩
        rw [wOf_val]
        exact hK
      · rw [if_neg Bool.false_ne_true]
        exact hQ
    · obtain ⟨q, hq, e⟩ := inT h1 y hy
      subst e
      rw [c_check_weights_4]
      simp only [wpS, wpE, wpEs, getV]
      refine ⟨n, _, .inl q.1, .int q.2, rfl, hc, valA_mem nd hq, ?_⟩
      have a := (hok q hq).2
      simp only [okVal, Bool.and_eq_true, decide_eq_true_eq] at a
      simp only [sLe_i, decide_eq_true a.1, decide_eq_true a.2, if_true, sNot_e, Bool.not_true, Bool.false_eq_true, if_false]
      exact k
  · obtain ⟨q, hq, e⟩ := inT h1 y hy
    subst e
    rw [c_check_weights_2]
    have a := okKey_e.mp (hok q hq).1
    simp only [wpS, wpE, wpEs, getV, len_fD, sLe_i, sLt_i, decide_eq_true a.1, decide_eq_true a.2, if_true, sNot_e, Bool.not_true, Bool.false_eq_true, if_false]
    exact k
theorem ok_wt0 : okFnL 4 c_check_weights spWt0 := by
  rintro ds cs Q X ⟨p, x, t, rfl, hl, hx, nd, h64, hok, hQ⟩
  show wpS (.seq c_check_weights_1 (.seq c_check_weights_3 (.seq c_check_weights_5 c_check_weights_6))) [some (fD p), some x, none, none] cs _
  simp only [wpS]
  rw [c_check_weights_1]
  rcases hx with ⟨rfl, ht⟩ | ⟨n, rfl, hc⟩
  · simp only [wpS, wpE, wpEs, getV, sIsN_e, isN, if_true, bindP, List.set]
    refine ⟨rfl, fun n hn => ?_⟩
    have h' := wt0_rest (x := .non) (Q := fun d c => ∃ cs', Le cs' c ∧ Q d cs') (X := fun e c => ∃ cs', Le cs' c ∧ X e cs') hl (cs := put cs n (dicO [])) (n := n) (t := t) (by rw [ht]; exact put_same) nd h64 hok ⟨cs, (Le.refl _).put hn, hQ⟩
    simp only [wpS] at h'
    exact h'
  · simp only [wpS, wpE, wpEs, getV, sIsN_e, isN, Bool.false_eq_true, if_false, bindP, List.set]
    have h' := wt0_rest (x := .ref n) (Q := fun d c => ∃ cs', Le cs' c ∧ Q d cs') (X := fun e c => ∃ cs', Le cs' c ∧ X e cs') hl hc nd h64 hok ⟨cs, Le.refl _, hQ⟩
    simp only [wpS] at h'
    exact h'
def spMnO : Spec := fun ds cs Q _ => ∃ p m x t, ds = [fD p, .int m, x] ∧ FoOk p ∧ p.length ≤ 60 ∧ 0 ≤ m ∧ m ≤ 20 ∧ wPre x t cs ∧ (∀ q ∈ t, okKey p.length q.1 = true ∧ okVal q.2 = true) ∧ Q (meanD p m.toNat (wOf t)) cs
theorem ok_mnO : okFn 12 (c_mean_total spTm0 spWt0 spGcd spDep spPw spSub) spMnO := by
  rintro ds cs Q X ⟨p, m, x, t, rfl, h, hl, h0, h1, ⟨w1, w2, w3⟩, hok, hQ⟩
  show wpS (.seq (c_mean_total_1 spTm0 spWt0 spGcd spDep spPw spSub) (.seq (c_mean_total_2 spTm0 spWt0 spGcd spDep spPw spSub) (.seq (c_mean_total_3 spTm0 spWt0 spGcd spDep spPw spSub) (.seq (c_mean_total_5 spTm0 spWt0 spGcd spDep spPw spSub) (.seq (c_mean_total_6 spTm0 spWt0 spGcd spDep spPw spSub) (.seq (c_mean_total_7 spTm0 spWt0 spGcd spDep spPw spSub) (.seq (c_mean_total_11 spTm0 spWt0 spGcd spDep spPw spSub) (.seq (c_mean_total_12 spTm0 spWt0 spGcd spDep spPw spSub) (c_mean_total_13 spTm0 spWt0 spGcd spDep spPw spSub))))))))) [some (fD p), some (.int m), some x, none, none, none, none, none, none, none, none, none] cs _
  simp only [wpS]
  rw [c_mean_total_1]
  simp only [wpS, wpE, wpEs, getV]
  refine ⟨m, rfl, h0, h1, ?_⟩
  rw [c_mean_total_2]
  simp only [wpS, wpE, wpEs, getV]
  refine ⟨p, x, t, rfl, by omega, w1, w2, w3, hok, ?_⟩
  have := mn_rest spTm0 spWt0 (x := x) (X := X) h hl ⟨h0, h1⟩ hok hQ
  simp only [wpS] at this
  simp only [bindP, List.set]
  exact this
end G

/-! GErr2: roots, depths that may raise; lists of equal answers. -/
namespace G
open PySem (Str)
abbrev spRootG : Spec := orN spRoot
abbrev spDepG : Spec := orN spDep
theorem spPathG_e {p : List Nat} {i : Nat} {cs : Cs} {Q : KD} {X : KX} (h : FoOk p) (hi : i < p.length) (hl : p.length ≤ 1000) (hQ : Q (lD (path p i)) cs) : spPathG [fD p, .int (i : Nat)] cs Q X := .inl (spPath_e h hi hl hQ)
theorem ok_rootG : okFn 2 (c_root_of spPathG) spRootG := by
  rintro ds cs Q X (⟨p, i, rfl, h, hi, hl, hQ⟩ | ⟨x, xs, i, rfl, hx, hq, hn, hX⟩)
  · show wpS (c_root_of_1 spPathG) [some (fD p), some (.int (i : Nat))] cs _
    rw [c_root_of_1]
    simp only [wpS, wpE, wpEs, getV]
    refine spPathG_e h hi hl ?_
    simp only [sNeg_e, sIx_e, getQ_lD, ix_path]
    exact hQ
  · show wpS (c_root_of_1 spPathG) [some x, some (.int i)] cs _
    rw [c_root_of_1]
    simp only [wpS, wpE, wpEs, getV]
    exact .inr ⟨x, xs, i, rfl, hx, hq, hn, hX⟩
theorem ok_depthG : okFn 2 (c_depth_of spPathG) spDepG := by
  rintro ds cs Q X (⟨p, i, rfl, h, hi, hl, hQ⟩ | ⟨x, xs, i, rfl, hx, hq, hn, hX⟩)
  · show wpS (c_depth_of_1 spPathG) [some (fD p), some (.int (i : Nat))] cs _
    rw [c_depth_of_1]
    simp only [wpS, wpE, wpEs, getV]
    refine spPathG_e h hi hl ?_
    simp only [len_lD, sSub_i]
    have l0 : 0 < (path p i).length := List.length_pos_iff.mpr (path_ne i)
    rw [show (((path p i).length : Nat) : Int) - 1 = ((cst p i : Nat) : Int) by unfold cst; omega]
    exact hQ
  · show wpS (c_depth_of_1 spPathG) [some x, some (.int i)] cs _
    rw [c_depth_of_1]
    simp only [wpS, wpE, wpEs, getV]
    exact .inr ⟨x, xs, i, rfl, hx, hq, hn, hX⟩
theorem pur_rep {k m : Nat} {d : D} (h : pur k d = true) (hm : m ≤ lim) : pur (k + 1) (.lst (List.replicate m d)) = true := by
  show (decide ((List.replicate m d).length ≤ lim) && purs k (List.replicate m d)) = true
  rw [Bool.and_eq_true, decide_eq_true_iff, List.length_replicate]
  exact ⟨hm, purs_of fun x hx => by rw [List.eq_of_mem_replicate hx]; exact h⟩
theorem flat_rep {m : Nat} {x : D} : (List.replicate m [x]).flatten = List.replicate m x := by
  induction m with
  | zero => rfl
  | succ m ih => simp [List.replicate_succ, ih]
/-- all asked are told the same error -/
theorem ne_errs {t : Str} {d : D} {m : Nat} {items : List D} {cs : Cs} {Q : KD} {X X1 X2 : KX} (hl : items.length = m) (hm : m ≤ 1000) (ht : strOk t = true) (hd : pur 62 d = true) (hQ : Q (.bl false) cs) :
    sTup [.str t, d] cs (fun e c1 => sList [e] c1 (fun e c1 => sRep [e, .int (m : Nat)] c1 (fun e c1 => sNe [.lst (items.map fun _ => .tup [.str t, d]), e] c1 Q X) X1) X1) X2 := by
  rw [sTup_e]
  refine ⟨show 2 ≤ 16777216 by decide, ?_⟩
  rw [sList_e]
  refine ⟨show 1 ≤ 16777216 by decide, ?_⟩
  refine ⟨by omega, by omega, by simp [lim]; omega, ?_⟩
  rw [flat_rep, show ((m : Nat) : Int).toNat = m by omega, List.map_const', hl]
  have hp : pur 63 (.tup [.str t, d]) = true := pur_tup2 (pur_str ht) hd
  exact sNe_self (pur_rep hp (by simp [lim]; omega)) hQ
end G

/-! GPair: paths in forests held as lists; parents exchanged; needed nodes one by one; ways counted. -/
namespace G
open PySem (Str)
/-- a forest however held -/
structure At (cs : Cs) (x : D) (p : List Nat) : Prop where
  str : ∀ s, x ≠ .str s
  q : ∀ c, Le cs c → getQ x c = some (nI p)
theorem At.fD {cs : Cs} {p : List Nat} : At cs (fD p) p := ⟨fD_str, fun _ _ => rfl⟩
theorem At.cell {cs : Cs} {n : Nat} {p : List Nat} (h : cs n = some (.lst (nI p))) : At cs (.ref n) p := ⟨fun s e => (by cases e), fun c le => getQ_cell (le n _ h)⟩
def spPathX : Spec := fun ds cs Q _ => ∃ x p i, ds = [x, .int (i : Nat)] ∧ At cs x p ∧ FoOk p ∧ i < p.length ∧ p.length ≤ 1000 ∧ Q (lD (path p i)) cs
theorem spPathX_e {x : D} {p : List Nat} {i : Nat} {cs : Cs} {Q : KD} {X : KX} (a : At cs x p) (h : FoOk p) (hi : i < p.length) (hl : p.length ≤ 1000) (hQ : Q (lD (path p i)) cs) : spPathX [x, .int (i : Nat)] cs Q X := ⟨_, _, _, rfl, a, h, hi, hl, hQ⟩
theorem ok_l_pathX : okFn 4 c_l_path spPathX := by
  rintro ds cs Q X ⟨x, p, i, rfl, ax, h, hi, hl, hQ⟩
  show wpS (.seq c_l_path_1 (.seq c_l_path_4 (.seq (.frz 2) c_l_path_5))) [some x, some (.int (i : Nat)), none, none] cs _
  simp only [wpS]
  rw [c_l_path_1]
  simp only [wpS, wpE, wpEs, bindP, getV, List.set, sListM_e]
  refine ⟨show 1 ≤ 16777216 by decide, fun n hn => ?_⟩
  have hq : ∀ o, getQ x (put cs n o) = some (nI p) := fun o => ax.q _ ((Le.refl _).put hn)
  rw [c_l_path_4]
  simp only [wpS, wpE, wpEs, getV, sLen_e ax.str, hq, nI_len]
  refine rng1_inv (fun s σ c => ∃ pre j a, c = put cs n (.lst (nI (pre ++ [j]))) ∧ σ = [some x, some (.int (i : Nat)), some (.ref n), a] ∧ pre ++ path p j = path p i ∧ j < p.length ∧ (s ≤ pre.length ∨ par p j = j)) (by omega) (by omega) ⟨[], i, none, rfl, rfl, rfl, hi, .inl (Nat.le_refl _)⟩ ?_ ?_
  · rintro s σ c hs ⟨pre, j, a, rfl, rfl, hp, hj, hd⟩ K' h1 h2 h3 h4 h5
    clear h2 h3 h4 h5
    have lp : pre.length + 1 ≤ 1000 := by
      have l1 := congrArg List.length hp
      have l2 : 0 < (path p j).length := List.length_pos_iff.mpr (path_ne j)
      have l3 := path_le h hi
      rw [List.length_append] at l1
      omega
    rw [c_l_path_3]
    simp [sIx_e, hq, ix_lastI, ix_par hj]
    by_cases e : par p j = j
    · rw [if_pos e]
      exact h1 _ _ ⟨pre, j, _, rfl, rfl, hp, hj, .inr e⟩
    · rw [if_neg e, c_l_path_2]
      simp [sIx_e, hq, ix_lastI, ix_par hj]
      refine ⟨show _ < 16777216 by omega, h1 _ _ ⟨pre ++ [j], par p j, _, ?_, rfl, ?_, par_lt h hj, ?_⟩⟩
      · simp [nI]
      · rw [← hp, path_step h hj e]
        simp
      · rcases hd with z | z
        · left
          simp
          omega
        · exact absurd z e
  · rintro σ c ⟨pre, j, a, rfl, rfl, hp, hj, hd⟩
    have e : par p j = j := by
      rcases hd with z | z
      · have l1 := congrArg List.length hp
        have l2 : 0 < (path p j).length := List.length_pos_iff.mpr (path_ne j)
        have l3 := path_le h hi
        rw [List.length_append] at l1
        omega
      · exact z
    have hp2 : pre ++ [j] = path p i := by rw [← hp, path_root h hj e]
    rw [c_l_path_5]
    simp
    rw [del_put hn, hp2]
    exact hQ
theorem ok_l_rootX : okFn 2 (c_l_root spPathX) spRoot := by
  rintro ds cs Q X ⟨p, i, rfl, h, hi, hl, hQ⟩
  show wpS (c_l_root_1 spPathX) [some (fD p), some (.int (i : Nat))] cs _
  rw [c_l_root_1]
  simp only [wpS, wpE, wpEs, getV]
  refine spPathX_e At.fD h hi hl ?_
  simp only [sNeg_e, sIx_e, getQ_lD, ix_path]
  exact hQ
/-! ### a parent exchanged -/
theorem set_par {p : List Nat} {i j v : Nat} (hj : j < p.length) : par (p.set i v) j = if i = j then v else par p j := by
  rw [par_get (by rw [List.length_set]; exact hj), List.getElem_set]
  split
  · rfl
  · rw [← par_get hj]
theorem nodup_nat {n : Nat} {l : List Nat} (hn : l.Nodup) (h : ∀ k ∈ l, k < n) : l.length ≤ n := by
  have := nodup_len n (l.map fun k : Nat => (k : Int)) (hn.map _ (fun a b h z => h (by omega))) fun k hk => by
    obtain ⟨i, hi, e⟩ := List.mem_map.mp hk
    have := h i hi
    omega
  simpa using this
/-- any falling rank will do -/
theorem fo_of {p : List Nat} (r : Nat → Nat) (h : ∀ i, i < p.length → par p i < p.length ∧ (par p i = i ∨ r (par p i) < r i)) : FoOk p := by
  have fuel : ∀ (f g i : Nat), i < p.length → r i ≤ f → r i ≤ g → pth p f i = pth p g i := by
    intro f
    induction f with
    | zero =>
      intro g i hi hf _
      have e : par p i = i := by
        rcases (h i hi).2 with e | e
        · exact e
        · omega
      cases g with
      | zero => rfl
      | succ g => simp [pth, e]
    | succ f ih =>
      intro g i hi hf hg
      by_cases e : par p i = i
      · cases g with
        | zero => simp [pth, e]
        | succ g => simp [pth, e]
      · have h2 := ((h i hi).2).resolve_left e
        cases g with
        | zero => omega
        | succ g =>
          simp only [pth, if_neg e]
          rw [ih g (par p i) (h i hi).1 (by omega) (by omega)]
  have step : ∀ i, i < p.length → par p i ≠ i → pth p (r i) i = i :: pth p (r (par p i)) (par p i) := fun i hi e => by
    have h2 := ((h i hi).2).resolve_left e
    cases er : r i with
    | zero => omega
    | succ n =>
      simp only [pth, if_neg e]
      rw [fuel n (r (par p i)) (par p i) (h i hi).1 (by omega) (Nat.le_refl _)]
  have rootp : ∀ i, par p i = i → pth p (r i) i = [i] := fun i e => by
    cases r i <;> simp [pth, e]
  have all : ∀ n i, i < p.length → r i ≤ n → (pth p (r i) i).Nodup ∧ (∀ j ∈ pth p (r i) i, j < p.length ∧ r j ≤ r i) := by
    intro n
    induction n with
    | zero =>
      intro i hi hn
      have e : par p i = i := by
        rcases (h i hi).2 with e | e
        · exact e
        · omega
      rw [rootp i e]
      exact ⟨by simp, fun j hj => by rw [List.mem_singleton.mp hj]; exact ⟨hi, Nat.le_refl _⟩⟩
    | succ n ih =>
      intro i hi hn
      by_cases e : par p i = i
      · rw [rootp i e]
        exact ⟨by simp, fun j hj => by rw [List.mem_singleton.mp hj]; exact ⟨hi, Nat.le_refl _⟩⟩
      · have h2 := ((h i hi).2).resolve_left e
        have q := ih (par p i) (h i hi).1 (by omega)
        rw [step i hi e]
        refine ⟨List.nodup_cons.mpr ⟨fun z => ?_, q.1⟩, fun j hj => ?_⟩
        · have := (q.2 i z).2
          omega
        · rcases List.mem_cons.mp hj with z | z
          · rw [z]
            exact ⟨hi, Nat.le_refl _⟩
          · have := q.2 j z
            exact ⟨this.1, by omega⟩
  refine ⟨fun i => (pth p (r i) i).length - 1, fun i hi => ⟨(h i hi).1, ?_, ?_⟩⟩
  · have a := all (r i) i hi (Nat.le_refl _)
    have b := nodup_nat a.1 fun j hj => (a.2 j hj).1
    show (pth p (r i) i).length - 1 < p.length
    omega
  · by_cases e : par p i = i
    · exact .inl e
    · right
      show (pth p (r (par p i)) (par p i)).length - 1 < (pth p (r i) i).length - 1
      rw [step i hi e]
      have ne : 0 < (pth p (r (par p i)) (par p i)).length := by
        cases r (par p i) with
        | zero => simp [pth]
        | succ n =>
          simp only [pth]
          split <;> simp
      simp
      omega
/-- the forest stays one, its roots stay -/
theorem set_fo {p : List Nat} (h : FoOk p) {i v : Nat} (hi : i < p.length) (hv : v < p.length) (hr : par p i ≠ i) (hn : i ∉ path p v) : FoOk (p.set i v) ∧ Pair p (p.set i v) := by
  obtain ⟨r, hr0⟩ := h
  have h : FoOk p := ⟨r, hr0⟩
  have ne : v ≠ i := fun z => hn (by rw [z]; exact mem_self h hi)
  refine ⟨?_, by simp, fun j hj => ?_⟩
  · refine fo_of (fun j => if i ∈ path p j then r j + (r v + 1) else r j) fun j hj => ?_
    rw [List.length_set] at hj ⊢
    rw [set_par hj]
    by_cases e : i = j
    · subst e
      rw [if_pos rfl]
      refine ⟨hv, .inr ?_⟩
      show (if i ∈ path p v then r v + (r v + 1) else r v) < (if i ∈ path p i then r i + (r v + 1) else r i)
      rw [if_neg hn, if_pos (mem_self h hi)]
      omega
    · rw [if_neg e]
      refine ⟨(hr0 j hj).1, ?_⟩
      rcases (hr0 j hj).2.2 with z | z
      · exact .inl z
      · right
        have pj : par p j ≠ j := fun q => by rw [q] at z; omega
        show (if i ∈ path p (par p j) then r (par p j) + (r v + 1) else r (par p j)) < (if i ∈ path p j then r j + (r v + 1) else r j)
        have iff : i ∈ path p j ↔ i ∈ path p (par p j) := by
          rw [path_step h hj pj]
          simp [e]
        by_cases m : i ∈ path p (par p j)
        · rw [if_pos m, if_pos (iff.mpr m)]
          omega
        · rw [if_neg m, if_neg fun q => m (iff.mp q)]
          exact z
  · rw [set_par hj]
    split
    · rename_i e
      subst e
      exact ⟨fun z => absurd z hr, fun z => absurd z ne⟩
    · exact Iff.rfl
end G

/-! GPairX: pairs that may not fit; ways that may be barred. -/
namespace G
open PySem (Str)
def unlike (p q : List Nat) : List Nat := (List.range p.length).filter fun i => decide (par p i = i) != decide (par q i = i)
def pairE (p q : List Nat) : Option (Str × Str × Int) := if q.length = p.length then (match unlike p q with
  | u :: _ => some ("RootsDiffer", "node", (u : Nat))
  | [] => none) else some ("SizesDiffer", "size", (q.length : Nat))
theorem pairE_none {p q : List Nat} (h : pairE p q = none) : Pair p q := by
  unfold pairE at h
  split at h
  · rename_i e
    cases eu : unlike p q with
    | cons u r => rw [eu] at h; cases h
    | nil =>
      refine ⟨e, fun i hi => ?_⟩
      have z := List.filter_eq_nil_iff.mp eu i (List.mem_range.mpr hi)
      simp at z
      exact z
  · cases h
theorem pairE_tag {p q : List Nat} {t f : Str} {v : Int} (h : pairE p q = some (t, f, v)) : fname t = some f ∧ strOk t = true := by
  unfold pairE at h
  split at h
  · split at h
    · cases h; exact ⟨by decide, by decide +kernel⟩
    · cases h
  · cases h; exact ⟨by decide, by decide +kernel⟩
def badP (ds : List D) (cs : Cs) (X : KX) : Prop := ∃ p q t f v, ds = [fD p, fD q] ∧ p.length ≤ 1000 ∧ q.length ≤ 1000 ∧ pairE p q = some (t, f, v) ∧ X (er t f (.int v)) cs
def orP (sp : Spec) : Spec := fun ds cs Q X => sp ds cs Q X ∨ badP ds cs X
abbrev spPairG : Spec := orP spPair
abbrev spChgG : Spec := orP spChg
abbrev spFBarP : Spec := orP spFBarG
theorem ok_pairG : okFn 4 c_check_pairX spPairG := by
  rintro ds cs Q X (⟨p, q, rfl, h, hl, hQ⟩ | ⟨p, q, t, f, v, rfl, hl, hlq, he, hX⟩)
  · show wpS (.seq c_check_pairX_2 (.seq c_check_pairX_3 c_check_pairX_5)) [some (fD p), some (fD q), none, none] cs _
    simp only [wpS]
    rw [c_check_pairX_2]
    simp [len_fD, h.len]
    rw [c_check_pairX_3]
    simp only [wpS, wpE, wpEs, bindP, getV, List.set, len_fD]
    refine ⟨by omega, by omega, ?_⟩
    rw [rgD_nI]
    refine comp_filter (fun _ => false) _ trivial (fun j hj => ⟨fun K hK => ?_, fun K hK => hK⟩) (by simp; omega) ?_
    · have hj := List.mem_range.mp hj
      have hr := h.rts j hj
      simp [wipe, sIx_e, getQ_fD, ix_par hj, ix_par (show j < q.length by rw [h.len]; exact hj), hr]
      exact hK
    rw [if_neg Bool.false_ne_true, show (List.range p.length).filter (fun _ => false) = [] from List.filter_eq_nil_iff.mpr (by simp)]
    rw [c_check_pairX_5]
    simp [lim, nI, sNe_nil]
    exact hQ
  · show wpS (.seq c_check_pairX_2 (.seq c_check_pairX_3 c_check_pairX_5)) [some (fD p), some (fD q), none, none] cs _
    simp only [wpS]
    rw [c_check_pairX_2]
    unfold pairE at he
    by_cases e : q.length = p.length
    · rw [if_pos e] at he
      simp [len_fD, e]
      rw [c_check_pairX_3]
      simp only [wpS, wpE, wpEs, bindP, getV, List.set, len_fD]
      refine ⟨by omega, by omega, ?_⟩
      rw [rgD_nI]
      refine comp_filter (fun i => decide (par p i = i) != decide (par q i = i)) _ trivial (fun j hj => ⟨fun K hK => ?_, fun K hK => hK⟩) (by simp; omega) ?_
      · have hj := List.mem_range.mp hj
        have hb : ∀ a b : Nat, ((a : Int) == (b : Int)) = decide (a = b) := fun a b => by
          by_cases z : a = b
          · simp [z]
          · have : ¬ (a : Int) = (b : Int) := by omega
            simp [z, this]
        simp only [wipe, List.set, getV, sIx_e, getQ_fD, ix_par hj, ix_par (show j < q.length by omega), sEq_i, hb]
        rw [sNe_e]
        refine ⟨rfl, rfl, ?_⟩
        have ee : (!eqD (deref cs (.bl (decide (par p j = j)))) (deref cs (.bl (decide (par q j = j))))) = (decide (par p j = j) != decide (par q j = j)) := by
          cases decide (par p j = j) <;> cases decide (par q j = j) <;> rfl
        rw [ee]
        exact hK
      rw [if_neg Bool.false_ne_true]
      have eu : (List.range p.length).filter (fun i => decide (par p i = i) != decide (par q i = i)) = unlike p q := rfl
      rw [eu]
      have lu : (unlike p q).length ≤ 16777216 := by
        have := List.length_filter_le (fun i => decide (par p i = i) != decide (par q i = i)) (List.range p.length)
        rw [List.length_range] at this
        unfold unlike
        omega
      cases ek : unlike p q with
      | nil => rw [ek] at he; cases he
      | cons u r =>
        rw [ek] at he lu
        cases he
        rw [c_check_pairX_5]
        simp only [wpS, wpE, wpEs, getV, sList_e]
        refine ⟨Nat.zero_le _, ?_⟩
        rw [sNe_e]
        refine ⟨pur_lD (k := 63) lu, rfl, ?_⟩
        rw [show eqD (deref cs (.lst (nI (u :: r)))) (deref cs (.lst [])) = false from rfl]
        have ixh : ix (nI (u :: r)) 0 = some (.int (u : Nat)) := ix_par (p := u :: r) (i := 0) (by simp)
        simp
        rw [c_check_pairX_4]
        simp [sIx_e, getQ_lD, getQ, ixh]
        exact hX
    · rw [if_neg e] at he
      cases he
      have e' : ¬ ((p.length : Nat) : Int) = (q.length : Nat) := by omega
      have e2 : ¬ p.length = q.length := fun z => e z.symm
      simp [len_fD, e', e2]
      rw [c_check_pairX_1]
      simp only [wpS, wpE, wpEs, getV, len_fD]
      exact hX
theorem ok_chgG : okFn 3 (c_changed_nodes spPairG) spChgG := by
  rintro ds cs Q X (⟨p, q, rfl, h, hl, hQ⟩ | h)
  · exact Or.inl (ok_chg _ cs Q X ⟨p, q, rfl, h, hl, hQ⟩)
  · obtain ⟨p, q, t, f, v, rfl, hl, hlq, he, hX⟩ := h
    exact Or.inr ⟨p, q, t, f, v, rfl, hl, hlq, he, hX⟩
theorem ok_fbarP : okFn 5 (c_find_bar spBarG spChgG) spFBarP := by
  rintro ds cs Q X (⟨p, q, rfl, h, hp, hl, hQ⟩ | h)
  · exact Or.inl (ok_fbarG _ cs Q X ⟨p, q, rfl, h, hp, hl, hQ⟩)
  · obtain ⟨p, q, t, f, v, rfl, hl, hlq, he, hX⟩ := h
    exact Or.inr ⟨p, q, t, f, v, rfl, hl, hlq, he, hX⟩
def badW (ds : List D) (cs : Cs) (X : KX) : Prop := ∃ p q i r, ds = [fD p, fD q] ∧ FoOk p ∧ Pair p q ∧ p.length ≤ 1000 ∧ barred p q = i :: r ∧ X (er "NoWay" "node" (.int (i : Nat))) cs
def orW (sp : Spec) : Spec := fun ds cs Q X => sp ds cs Q X ∨ badW ds cs X ∨ badP ds cs X
abbrev spNedP : Spec := orW spNed
theorem ok_nedP : okFn 6 (c_needed_findsX spChgG spFBarP spSub) spNedP := by
  have head : ∀ (p q : List Nat) (cs : Cs) (Q : KD) (X : KX), FoOk p → Pair p q → p.length ≤ 1000 → (barred p q = [] → wpS (c_needed_findsX_5 spChgG spFBarP spSub) [some (fD p), some (fD q), some (lD (chg p q)), some .non, none, none] cs { nx := fun _ c' => Q .non c', rt := Q, ex := fun x _ c' => X x c' }) → (∀ i r, barred p q = i :: r → X (er "NoWay" "node" (.int (i : Nat))) cs) →
      wpS (c_needed_findsX spChgG spFBarP spSub) (start 6 [fD p, fD q]) cs { nx := fun _ c' => Q .non c', rt := Q, ex := fun x _ c' => X x c' } := by
    intro p q cs Q X h hp hl h1 h2
    show wpS (.seq (c_needed_findsX_1 spChgG spFBarP spSub) (.seq (c_needed_findsX_2 spChgG spFBarP spSub) (.seq (c_needed_findsX_4 spChgG spFBarP spSub) (c_needed_findsX_5 spChgG spFBarP spSub)))) [some (fD p), some (fD q), none, none, none, none] cs _
    simp only [wpS]
    rw [c_needed_findsX_1]
    simp only [wpS, wpE, wpEs, bindP, getV, List.set]
    refine .inl (spChg_e hp hl ?_)
    rw [c_needed_findsX_2]
    simp only [wpS, wpE, wpEs, bindP, getV, List.set]
    refine .inl (spFBarG_e h hp hl ?_)
    rw [c_needed_findsX_4]
    unfold fbarD
    cases eb : barred p q with
    | nil =>
      simp [isN]
      exact h1 eb
    | cons i r =>
      have ix0 : ∀ a b : D, ix [a, b] 0 = some a := fun _ _ => rfl
      simp [isN]
      rw [c_needed_findsX_3]
      simp [sIx_e, getQ, ix0]
      exact h2 i r eb
  rintro ds cs Q X (⟨p, q, rfl, h, hl, hQ⟩ | ⟨p, q, i, r, rfl, h, hp, hl, eb, hX⟩ | ⟨p, q, t, f, v, rfl, hl, hlq, he, hX⟩)
  · refine head p q cs Q X h.fo h.toPair hl (fun _ => ?_) (fun i r e => ?_)
    · rw [c_needed_findsX_5]
      have cl := chg_len (p := p) (q := q)
      simp only [wpS, wpE, wpEs, getV]
      refine iSeq_e (.inl rfl) (comp_filter (fun i => decide (((sub p i).filter fun j => decide (j ∈ chg p q)).length = 1)) _ trivial (fun j hj => ⟨fun K hK => ?_, fun K hK => hK⟩) (by omega) hQ)
      have hj := chg_lt hj
      simp only [wipe, List.set, getV]
      refine spSub_e h.fo hj hl ?_
      have sl : (sub p j).length ≤ p.length := Nat.le_trans (List.length_filter_le _ _) (by simp)
      refine iSeq_e (.inl rfl) (comp_filter (fun k => decide (k ∈ chg p q)) _ trivial (fun k hk => ⟨fun K' hK' => ?_, fun K' hK' => hK'⟩) (by omega) ?_)
      · simp [sIn_e, getQ_lD, flat, inD_nI]
        exact hK'
      rw [if_neg Bool.false_ne_true]
      rw [show sLen [.lst (nI ((sub p j).filter fun k => decide (k ∈ chg p q)))] = sLen [lD ((sub p j).filter fun k => decide (k ∈ chg p q))] from rfl, len_lD, sEq_i]
      rw [show (((((sub p j).filter fun k => decide (k ∈ chg p q)).length : Nat) : Int) == 1) = decide (((sub p j).filter fun k => decide (k ∈ chg p q)).length = 1) by
        rw [show (1 : Int) = ((1 : Nat) : Int) from rfl, beqN]]
      exact hK
    · rw [(way_iff h.fo h.toPair).mpr h] at e
      cases e
  · refine head p q cs Q X h hp hl (fun e => ?_) (fun j s e => ?_)
    · rw [e] at eb; cases eb
    · rw [e] at eb
      cases eb
      exact hX
  · show wpS (.seq (c_needed_findsX_1 spChgG spFBarP spSub) _) [some (fD p), some (fD q), none, none, none, none] cs _
    simp only [wpS]
    rw [c_needed_findsX_1]
    simp only [wpS, wpE, wpEs, getV]
    exact .inr ⟨p, q, t, f, v, rfl, hl, hlq, he, hX⟩
end G

/-! GPairY: rooted pairs, count_ways, is_needed. -/
namespace G
theorem Pair.trans {p q s : List Nat} (a : Pair p q) (b : Pair q s) : Pair p s := ⟨b.len.trans a.len, fun i hi => (a.rts i hi).trans (b.rts i (by rw [a.len]; exact hi))⟩
theorem Pair.refl {p : List Nat} : Pair p p := ⟨rfl, fun _ _ => Iff.rfl⟩
def spExch : G.Spec := fun ds cs Q _ => ∃ n q, ds = [.ref n, fD q] ∧ cs n = some .drw ∧ FoOk q ∧ q.length ≤ 1000 ∧ ∀ s, FoOk s → Pair q s → Q (fD s) cs
theorem spExch_e {n : Nat} {q : List Nat} {cs : Cs} {Q : KD} {X : KX} (hc : cs n = some .drw) (h : FoOk q) (hl : q.length ≤ 1000) (hQ : ∀ s, FoOk s → Pair q s → Q (fD s) cs) : spExch [.ref n, fD q] cs Q X := ⟨_, _, rfl, hc, h, hl, hQ⟩
theorem ok_exch : okFnL 6 (c_l_exchanged spPathX spTake) spExch := by
  rintro ds cs Q X ⟨n, q, rfl, hc, h, hl, hQ⟩
  show wpS (.seq (c_l_exchanged_1 spPathX spTake) (.seq (c_l_exchanged_6 spPathX spTake) (c_l_exchanged_7 spPathX spTake))) [some (.ref n), some (fD q), none, none, none, none] cs _
  simp only [wpS]
  rw [c_l_exchanged_1]
  simp only [wpS, wpE, wpEs, getV, sListOfM_e, getQ_fD]
  intro m hm
  have ne : n ≠ m := fun z => by rw [z, hm] at hc; cases hc
  simp only [bindP, List.set]
  rw [c_l_exchanged_6]
  simp only [wpS, wpE, wpEs, getV, spTake_e]
  refine ⟨by rw [put_ne ne]; exact hc, by decide, by decide, fun r r0 r1 => ?_⟩
  refine rng1_inv (fun j σ c => ∃ s a3 a4 a5, c = put cs m (.lst (nI s)) ∧ σ = [some (.ref n), some (fD q), some (.ref m), a3, a4, a5] ∧ FoOk s ∧ Pair q s) (by omega) (by omega) ⟨q, none, none, none, rfl, rfl, h, Pair.refl⟩ ?_ ?_
  · rintro j σ c hj ⟨s, a3, a4, a5, rfl, rfl, hs, hp⟩ K' h1 h2 h3 h4 h5
    clear h2 h3 h4 h5
    have sl : s.length ≤ 1000 := by rw [hp.len]; exact hl
    rw [c_l_exchanged_5]
    simp only [wpS, wpE, wpEs, getV, List.set, sList_e]
    refine ⟨Nat.zero_le _, ?_⟩
    have en : sNe [.ref m, .lst []] (put cs m (.lst (nI s))) = sNe [lD s, lD []] (put cs m (.lst (nI s))) := by
      funext Q X
      simp [sNe, deref, lD, nI]
    rw [en, sNe_lL (by omega) (by simp)]
    by_cases e0 : s = []
    · simp [e0]
      exact h1 _ _ ⟨s, _, _, _, by rw [e0], rfl, hs, hp⟩
    have s0 : 0 < s.length := List.length_pos_iff.mpr e0
    simp [e0]
    rw [c_l_exchanged_2]
    simp [spTake_e, sLen_e, put_ne ne, hc, lim]
    refine ⟨by omega, by omega, fun v v0 v1 => ⟨by omega, by omega, fun u u0 u1 => ?_⟩⟩
    obtain ⟨v, rfl⟩ : ∃ k : Nat, v = k := ⟨v.toNat, by omega⟩
    obtain ⟨u, rfl⟩ : ∃ k : Nat, u = k := ⟨u.toNat, by omega⟩
    have hv : v < s.length := by omega
    have hu : u < s.length := by omega
    rw [c_l_exchanged_4]
    simp [sIx_e, ix_par hv]
    by_cases er : par s v = v
    · rw [if_pos er]
      exact h1 _ _ ⟨s, _, _, _, rfl, rfl, hs, hp⟩
    · rw [if_neg er]
      refine spPathX_e (At.cell put_same) hs hu sl ?_
      rw [sNotIn_e]
      simp only [getQ_lD, nI_flat, inD_nI]
      refine ⟨rfl, trivial, ?_⟩
      by_cases ep : v ∈ path s u
      · rw [decide_eq_true ep]
        simp
        exact h1 _ _ ⟨s, _, _, _, rfl, rfl, hs, hp⟩
      · rw [decide_eq_false ep]
        simp
        rw [c_l_exchanged_3]
        simp [ixn_nat hv, nI_setI]
        have q := set_fo hs hv hu er ep
        exact h1 _ _ ⟨s.set v u, _, _, _, rfl, rfl, q.1, Pair.trans hp q.2⟩
  · rintro σ c ⟨s, a3, a4, a5, rfl, rfl, hs, hp⟩
    rw [c_l_exchanged_7]
    simp
    exact ⟨cs, (Le.refl _).put hm, hQ s hs hp⟩
def spRP : G.Spec := fun ds cs Q _ => ∃ n m, ds = [.ref n, .int m] ∧ cs n = some .drw ∧ 0 ≤ m ∧ m ≤ 1000 ∧ ∀ p q, FoOk p → FoOk q → Pair p q → (p.length : Int) ≤ m → Q (.tup [fD p, fD q]) cs
theorem spRP_e {n : Nat} {m : Int} {cs : Cs} {Q : KD} {X : KX} (hc : cs n = some .drw) (h0 : 0 ≤ m) (h1 : m ≤ 1000) (hQ : ∀ p q, FoOk p → FoOk q → Pair p q → (p.length : Int) ≤ m → Q (.tup [fD p, fD q]) cs) : spRP [.ref n, .int m] cs Q X := ⟨_, _, rfl, hc, h0, h1, hQ⟩
theorem ok_rp : okFn 5 (c_l_rooted_pair spExch spAll spNodes spSome spTake) spRP := by
  rintro ds cs Q X ⟨n, m, rfl, hc, h0, h1, hQ⟩
  show wpS (.seq (c_l_rooted_pair_1 spExch spAll spNodes spSome spTake) (.seq (c_l_rooted_pair_2 spExch spAll spNodes spSome spTake) (.seq (c_l_rooted_pair_3 spExch spAll spNodes spSome spTake) (.seq (c_l_rooted_pair_5 spExch spAll spNodes spSome spTake) (c_l_rooted_pair_6 spExch spAll spNodes spSome spTake))))) [some (.ref n), some (.int m), none, none, none] cs _
  simp only [wpS]
  rw [c_l_rooted_pair_1]
  simp only [wpS, wpE, wpEs, bindP, getV, List.set]
  refine spSome_e hc h0 h1 fun p hp hl => ?_
  rw [c_l_rooted_pair_2]
  simp only [wpS, wpE, wpEs, bindP, getV, List.set, spTake_e]
  refine ⟨hc, by decide, by decide, fun k k0 k1 => ?_⟩
  have fin : ∀ q, FoOk q → Pair p q → wpS (c_l_rooted_pair_5 spExch spAll spNodes spSome spTake) [some (.ref n), some (.int m), some (fD p), some (.int k), some (fD q)] cs { nx := fun σ' cs' => wpS (c_l_rooted_pair_6 spExch spAll spNodes spSome spTake) σ' cs' { nx := fun x cs' => Q D.non cs', rt := Q, ex := fun x x_1 cs' => X x cs' }, rt := Q, ex := fun x x_1 cs' => X x cs' } := by
    intro q hq pq
    have last : ∀ q, FoOk q → Pair p q → wpS (c_l_rooted_pair_6 spExch spAll spNodes spSome spTake) [some (.ref n), some (.int m), some (fD p), some (.int k), some (fD q)] cs { nx := fun x cs' => Q D.non cs', rt := Q, ex := fun x x_1 cs' => X x cs' } := fun q hq pq => by
      rw [c_l_rooted_pair_6]
      exact ⟨show 2 ≤ 16777216 by decide, hQ p q hp hq pq hl⟩
    rw [c_l_rooted_pair_5]
    simp [lim, sIn_e, flat]
    split
    · rw [c_l_rooted_pair_4]
      simp only [wpS, wpE, wpEs, bindP, getV, List.set]
      exact spExch_e hc hq (by rw [pq.len]; omega) fun s hs ps => last s hs (Pair.trans pq ps)
    · exact last q hq pq
  rw [c_l_rooted_pair_3]
  simp only [wpS, wpE, wpEs, bindP, getV, List.set, sLt_i]
  by_cases e : k < 4
  · rw [decide_eq_true e, if_pos rfl, len_fD]
    refine spNodes_e hc (by omega) (by decide) (by decide) fun xs hx hm => ?_
    refine spAll_e (.inl rfl) hp hx (by omega) (by omega) ?_
    simp
    have hM := mk_ok hp hx
    rw [(fndAll_eq hp hx).1]
    exact fin _ (flt_fo hp hM) (flt_pair hp hM)
  · rw [decide_eq_false e, if_neg Bool.false_ne_true]
    exact fin p hp Pair.refl
/-! ### counted, one by one -/
def facR : Nat → Nat
  | 0 => 1
  | n + 1 => facR n * (n + 1)
def spCW : G.Spec := fun ds cs Q _ => ∃ p q, ds = [fD p, fD q] ∧ Way p q ∧ p.length ≤ 1000 ∧ Q (.int (facR (ned p q).length : Nat)) cs
theorem spCW_e {p q : List Nat} {cs : Cs} {Q : KD} {X : KX} (h : Way p q) (hl : p.length ≤ 1000) (hQ : Q (.int (facR (ned p q).length : Nat)) cs) : spCW [fD p, fD q] cs Q X := ⟨_, _, rfl, h, hl, hQ⟩
theorem rng2_inv {i : Nat} {body : Sl → Cs → Ends → Prop} {K : Ends} {σ : Sl} {cs : Cs} {a b : Int} (I : Nat → Sl → Cs → Prop) (hb : -(2 ^ 62) ≤ a ∧ a < 2 ^ 62 ∧ -(2 ^ 62) ≤ b ∧ b < 2 ^ 62) (h0 : I 0 σ cs)
    (hs : ∀ (j : Nat) σ cs, a + j < b → I j σ cs → ∀ K', (∀ σ' cs', I (j + 1) σ' cs' → K'.nx σ' cs') → body (σ.set i (some (.int (a + j)))) cs K') (hd : ∀ σ cs, I (b - a).toNat σ cs → K.nx σ cs) : iRng2 [.int a, .int b] cs fun items grd => forL (.nm i) grd body K items σ cs := by
  refine ⟨hb, forL_inv I _ 0 h0 (fun _ _ _ _ _ _ => trivial) (fun j x σ cs hj hI => ?_) (fun σ cs h => hd σ cs ?_)⟩
  · have e := rgD_get hj
    subst e
    have hj2 : j < (rgD a b).length := (List.getElem?_eq_some_iff.mp hj).1
    rw [rgD_length] at hj2
    rw [Nat.zero_add] at hI
    refine ⟨_, rfl, fun K' a1 a2 a3 a4 a5 => ?_⟩
    rw [Nat.zero_add] at a1
    exact hs j σ cs (by omega) hI K' a1
  · rw [Nat.zero_add, rgD_length] at h
    exact h
theorem ok_cw : okFn 4 (c_count_ways spNed) spCW := by
  rintro ds cs Q X ⟨p, q, rfl, h, hl, hQ⟩
  show wpS (.seq (c_count_ways_1 spNed) (.seq (c_count_ways_3 spNed) (c_count_ways_4 spNed))) [some (fD p), some (fD q), none, none] cs _
  simp only [wpS]
  rw [c_count_ways_1]
  simp only [wpS, wpE, wpEs, bindP, getV, List.set]
  rw [c_count_ways_3]
  simp only [wpS, wpE, wpEs, getV]
  refine spNed_e h hl ?_
  have nl := ned_len (p := p) (q := q)
  simp only [len_lD, sAdd_i]
  generalize (ned p q).length = m at hQ nl
  refine rng2_inv (fun j σ c => c = cs ∧ ∃ a, σ = [some (fD p), some (fD q), some (.int (facR (if m = 0 then 0 else j + 1) : Nat)), a]) (by omega) ⟨rfl, none, by split <;> rfl⟩ ?_ ?_
  · rintro j σ c hj ⟨rfl, a, rfl⟩ K' h1
    have m0 : m ≠ 0 := by omega
    rw [if_neg m0] at h1 ⊢
    rw [c_count_ways_2]
    simp
    have e : ((facR (j + 1) : Nat) : Int) * (2 + (j : Int)) = ((facR (j + 1 + 1) : Nat) : Int) := by
      show _ = ((facR (j + 1) * (j + 1 + 1) : Nat) : Int)
      rw [Int.natCast_mul]
      congr 1
      omega
    rw [e]
    exact ⟨mulOk_r (by omega), h1 _ _ ⟨rfl, _, rfl⟩⟩
  · rintro σ c ⟨rfl, a, rfl⟩
    rw [c_count_ways_4]
    simp
    have e : (if m = 0 then 0 else ((m : Int) + 1 - 2).toNat + 1) = m := by split <;> omega
    rw [e]
    exact hQ
def spIN : G.Spec := fun ds cs Q _ => ∃ p q, ∃ v : Int, ds = [fD p, fD q, .int v] ∧ FoOk p ∧ Pair p q ∧ p.length ≤ 1000 ∧ ((∃ i : Nat, v = i ∧ i < p.length ∧ Q (.bl (decide (i ∈ ned p q))) cs) ∨ ((v < 0 ∨ (p.length : Int) ≤ v) ∧ Q (.bl false) cs))
theorem ok_in : okFn 5 (c_is_needed spChg spSub) spIN := by
  rintro ds cs Q X ⟨p, q, v, rfl, h, hp, hl, hQ⟩
  show wpS (.seq (c_is_needed_1 spChg spSub) (c_is_needed_2 spChg spSub)) [some (fD p), some (fD q), some (.int v), none, none] cs _
  simp only [wpS]
  rw [c_is_needed_1]
  simp only [wpS, wpE, wpEs, bindP, getV, List.set]
  refine spChg_e hp hl ?_
  rw [c_is_needed_2]
  simp only [wpS, wpE, wpEs, getV, sIn_e, getQ_lD, nI_flat]
  refine ⟨rfl, trivial, ?_⟩
  have cl := chg_len (p := p) (q := q)
  rcases hQ with ⟨i, rfl, hi, hQ⟩ | ⟨hv, hQ⟩
  · rw [inD_nI]
    by_cases e : i ∈ chg p q
    · rw [decide_eq_true e, if_pos rfl]
      refine spSub_e h hi hl ?_
      have sl : (sub p i).length ≤ p.length := Nat.le_trans (List.length_filter_le _ _) (by simp)
      let t : Nat → Bool := fun j => decide (j ∈ chg p q) && !decide (j = i)
      refine iSeq_e (.inl rfl) (compL_map (fun d => match d with
        | .int j => .bl (t j.toNat)
        | d => d) trivial _ _ (fun d hd => ?_) (show _ ≤ 16777216 by simp; omega) ?_)
      · obtain ⟨j, hj, rfl⟩ := List.mem_map.mp hd
        refine ⟨_, rfl, fun K h => h, fun K hK => ?_⟩
        simp [wipe, sIn_e, getQ_lD, flat, inD_nI]
        simp [t] at hK
        by_cases a : j ∈ chg p q
        · simp [a] at hK ⊢
          exact hK
        · simp [a] at hK ⊢
          exact hK
      have em : (nI (sub p i)).map (fun d => match d with
          | .int j => D.bl (t j.toNat)
          | d => d) = (sub p i).map fun j => .bl (t j) := by
        unfold nI
        rw [List.map_map]
        exact List.map_congr_left fun j _ => rfl
      have ab : ∀ l : List Nat, asBools (l.map fun j => D.bl (t j)) = some (l.map t) := fun l => by
        induction l with
        | nil => rfl
        | cons a l ih =>
          show (asBools (l.map fun j => D.bl (t j))).map (t a :: ·) = _
          rw [ih]
          rfl
      rw [if_neg Bool.false_ne_true, List.nil_append, em]
      simp [ab]
      have ev : (!((sub p i).any t)) = decide (i ∈ ned p q) := by
        rw [Bool.eq_iff_iff, decide_eq_true_iff, ned_iff h, Bool.not_eq_true', List.any_eq_false]
        constructor
        · intro z
          refine ⟨e, fun j hj hij => Classical.byContradiction fun ne => ?_⟩
          have := z j (by unfold sub; rw [List.mem_filter, List.mem_range, decide_eq_true_iff]; exact ⟨chg_lt hj, hij⟩)
          simp [t, hj, ne] at this
        · rintro ⟨_, z⟩ j hj
          unfold sub at hj
          rw [List.mem_filter, decide_eq_true_iff] at hj
          by_cases c : j ∈ chg p q
          · have := z j c hj.2
            simp [t, this]
          · simp [t, c]
      have ev2 : (!((sub p i).any ((fun x => x) ∘ t))) = decide (i ∈ ned p q) := ev
      first
        | (rw [ev]; exact hQ)
        | (simp only [Function.comp_def] at *; rw [ev]; exact hQ)
    · have : i ∉ ned p q := fun z => e (ned_chg z)
      rw [decide_eq_false this] at hQ
      rw [decide_eq_false e, if_neg Bool.false_ne_true]
      exact hQ
  · have e : inD (.int v) (nI (chg p q)) = false := by
      cases z : inD (.int v) (nI (chg p q)) with
      | false => rfl
      | true =>
        unfold inD nI at z
        rw [List.any_eq_true] at z
        obtain ⟨d, hd, ed⟩ := z
        obtain ⟨j, hj, rfl⟩ := List.mem_map.mp hd
        have := chg_lt hj
        simp [eqD] at ed
        omega
    rw [e, if_neg Bool.false_ne_true]
    exact hQ

/-! ### needed_finds, its result in a cell -/
end G

/-! GInD: in, not in over lists of trees. -/
namespace G
open PySem PySem.Spec L2
open Evl (Ex)
def sInD : Spec := fun ds cs Q _ => match ds with
  | [x, y] => match getL y cs with
    | some xs => pur 64 x = true ∧ pur 64 (.lst xs) = true ∧ Q (.bl (inD x xs)) cs
    | none => False
  | _ => False
theorem toPs_any {k : Nat} {x : D} (hx : pur 64 x = true) : ∀ xs : List D, purs k xs = true → (toPs xs).any (fun z => PyData.eqv z (toP x)) = inD x xs
  | [], _ => rfl
  | y :: ys, h => by
    have h : (pur k y && purs k ys) = true := h
    rw [Bool.and_eq_true] at h
    have := toPs_any hx ys h.2
    unfold inD at this ⊢
    rw [List.any_cons, ← this, eqD_eqv k 64 y x h.1 hx]
    rfl
section
variable {X : Cx} {W : WX} {pos : Pos} {a b c e : Expr} {ca cb cc ce : E} {K : PySem.W.Frag}
theorem ref_inD : Ref2 X.K (rInD X.K) sInD := by
  intro wd F cs H x y v w P PX Q R rx ry hs q
  have hs : (match getL y cs with
    | some xs => pur 64 x = true ∧ pur 64 (.lst xs) = true ∧ P (.bl (inD x xs)) cs
    | none => False) := hs
  cases ey : getL y cs with
  | none => rw [ey] at hs; exact hs.elim
  | some xs =>
    rw [ey] at hs
    obtain ⟨h1, h2, h3⟩ := hs
    obtain ⟨a, vs, e, s, r⟩ := R.getL ry ey
    subst e
    refine ⟨_, _, dp_of R.b 64 _ v h1 rx, .lst (SqL.of s) (dps_of R.b 63 xs vs (pur_purs h2) r), pur_shaped h1, pur_shaped h2, ?_⟩
    rw [toPs_any h1 xs (pur_purs h2)]
    exact q wd (.bl _) cs _ H (Wd.le.refl _) R rfl h3
theorem j_inD (hu : X.A.units + 65 < cLine) (ha : JE X W a ca) (hb : JE X W b cb) (hm : behindInMarks .In b = false := by rfl) : JE X W (.Compare a [.In] [b] pos) (.app sInD (.cons ca (.cons cb .nil))) := j_cmp (op_inD hu) ref_inD ha hb hm
theorem jt_inD (hu : X.A.units + 65 < cLine) (ha : JE X W a ca) (hb : JE X W b cb) (hm : behindInMarks .In b = false := by rfl) : JT X W (.Compare a [.In] [b] pos) (.app sInD (.cons ca (.cons cb .nil))) := jt_cmp (op_inD hu) ref_inD ha hb hm
theorem Ct.hu65 {X : Cx} {W : WX} {k : Nat} (c : Ct X W k) : X.A.units + 65 < cLine := by have := c.hr.un; omega
end
end G

/-! GPairZ: count_ways, way_cost, is_needed, bar_holds with errors; the barring pairs. -/
namespace G
abbrev spCWP : Spec := orW spCW
theorem ok_cwP : okFn 4 (c_count_ways spNedP) spCWP := by
  rintro ds cs Q X (h | ⟨p, q, i, r, rfl, z⟩ | ⟨p, q, t, f, v, rfl, z⟩)
  · obtain ⟨p, q, rfl, z⟩ := h
    exact Or.inl (ok_cw _ cs Q X ⟨p, q, rfl, z⟩)
  · exact Or.inr (.inl ⟨p, q, i, r, rfl, z⟩)
  · exact Or.inr (.inr ⟨p, q, t, f, v, rfl, z⟩)
abbrev spWayP : Spec := orW spWay
theorem ok_wayP : okFn 2 (c_way_cost spNedP spTot) spWayP := by
  rintro ds cs Q X (h | ⟨p, q, i, r, rfl, z⟩ | ⟨p, q, t, f, v, rfl, z⟩)
  · obtain ⟨p, q, rfl, z⟩ := h
    exact Or.inl (ok_way _ cs Q X ⟨p, q, rfl, z⟩)
  · exact Or.inr (.inl ⟨p, q, i, r, rfl, z⟩)
  · exact Or.inr (.inr ⟨p, q, t, f, v, rfl, z⟩)
theorem compN {k : Nat} {grd : Cs → Prop} {σ : Sl} {tst elt : Sl → Cs → KD → Prop} {Q : List D → Cs → Prop} {cs : Cs} (t : Nat → Bool) (f : Nat → D) (xs : List Nat) (hg : grd cs)
    (h : ∀ i ∈ xs, (∀ K : KD, K (.bl (t i)) cs → tst (σ.set k (some (.int (i : Nat)))) cs K) ∧ (t i = true → ∀ K : KD, K (f i) cs → elt (σ.set k (some (.int (i : Nat)))) cs K)) (hl : xs.length ≤ lim) (hQ : Q ((xs.filter t).map f) cs) : compL (.nm k) grd σ tst elt Q (nI xs) [] cs := by
  let q : D → Bool := fun d => match d with
    | .int z => t z.toNat
    | _ => false
  let g : D → D := fun d => match d with
    | .int z => f z.toNat
    | d => d
  refine compL_pure q g hg (nI xs) [] (fun x hx => ?_) (by simpa using hl) ?_
  · obtain ⟨i, hi, rfl⟩ := List.mem_map.mp hx
    exact ⟨_, rfl, (h i hi).1, (h i hi).2⟩
  · have e : ((nI xs).filter q).map g = (xs.filter t).map f := by
      unfold nI
      rw [List.filter_map, List.map_map]
      rfl
    rw [e]
    exact hQ
/-- two forests that do not fit, and one thing more -/
def badP3 (ds : List D) (cs : Cs) (X : KX) : Prop := ∃ p q d t f v, ds = [fD p, fD q, d] ∧ p.length ≤ 1000 ∧ q.length ≤ 1000 ∧ pairE p q = some (t, f, v) ∧ X (er t f (.int v)) cs
def orP3 (sp : Spec) : Spec := fun ds cs Q X => sp ds cs Q X ∨ badP3 ds cs X
abbrev spINP : Spec := orP3 spIN
theorem ok_inP : okFn 5 (c_is_needed spChgG spSub) spINP := by
  rintro ds cs Q X (h | ⟨p, q, d, t, f, v, rfl, z⟩)
  · obtain ⟨p, q, v, rfl, z⟩ := h
    exact Or.inl (ok_in _ cs Q X ⟨p, q, v, rfl, z⟩)
  · exact Or.inr ⟨p, q, t, f, v, rfl, z⟩
/-! ### bars -/
def barN (p q : List Nat) : List (Nat × Nat) := (chg p q).flatMap fun i => (wrong p q i).map fun a => (i, a)
def prZ (x : Nat × Nat) : D := .tup [.int (x.1 : Nat), .int (x.2 : Nat)]
def inB (p q : List Nat) (u v : Int) : Bool := (barN p q).any fun x => (x.1 : Int) == u && (x.2 : Int) == v
theorem inB_in {p q : List Nat} {u v : Int} : inD (.tup [.int u, .int v]) ((barN p q).map prZ) = inB p q u v := by
  unfold inD inB
  rw [List.any_map]
  congr 1
  funext x
  show ((((x.1 : Nat) : Int) == u) && ((((x.2 : Nat) : Int) == v) && true)) = _
  rw [Bool.and_true]
theorem fbarD_bar {p q : List Nat} : fbarD p q = match barN p q with
    | [] => .non
    | x :: _ => prZ x := by
  unfold fbarD barred barN
  induction chg p q with
  | nil => rfl
  | cons i r ih =>
    rw [List.filter_cons, List.flatMap_cons]
    unfold barD barO
    cases ew : wrong p q i with
    | nil =>
      have ih := ih
      unfold barD barO at ih
      simpa using ih
    | cons w s =>
      simp [ew, prZ]
theorem inB_lt {p q : List Nat} {u v : Int} (h : inB p q u v = true) : ∃ i a : Nat, u = i ∧ v = a ∧ i ∈ chg p q ∧ a ∈ wrong p q i := by
  unfold inB barN at h
  rw [List.any_eq_true] at h
  obtain ⟨⟨i, a⟩, hm, e⟩ := h
  rw [List.mem_flatMap] at hm
  obtain ⟨j, hj, hm⟩ := hm
  obtain ⟨b, hb, e2⟩ := List.mem_map.mp hm
  cases e2
  simp at e
  exact ⟨i, a, e.1.symm, e.2.symm, hj, hb⟩
theorem inB_iff {p q : List Nat} {i a : Nat} : inB p q i a = true ↔ i ∈ chg p q ∧ a ∈ wrong p q i := by
  constructor
  · intro h
    obtain ⟨j, b, e1, e2, h1, h2⟩ := inB_lt h
    have : i = j := by omega
    have : a = b := by omega
    subst_vars
    exact ⟨h1, h2⟩
  · rintro ⟨h1, h2⟩
    unfold inB barN
    rw [List.any_eq_true]
    exact ⟨(i, a), List.mem_flatMap.mpr ⟨i, h1, List.mem_map.mpr ⟨a, h2, rfl⟩⟩, by simp⟩
theorem inD_far {v : Int} {xs : List Nat} (h : ∀ i ∈ xs, v ≠ (i : Nat)) : inD (.int v) (nI xs) = false := by
  cases z : inD (.int v) (nI xs) with
  | false => rfl
  | true =>
    unfold inD nI at z
    rw [List.any_eq_true] at z
    obtain ⟨d, hd, ed⟩ := z
    obtain ⟨j, hj, rfl⟩ := List.mem_map.mp hd
    have := h j hj
    simp [eqD] at ed
    omega
def spBH : Spec := fun ds cs Q _ => ∃ p q, ∃ u v : Int, ds = [fD p, fD q, .tup [.int u, .int v]] ∧ FoOk p ∧ Pair p q ∧ p.length ≤ 1000 ∧ Q (.bl (inB p q u v)) cs
theorem spBH_e {p q : List Nat} {u v : Int} {cs : Cs} {Q : KD} {X : KX} (h : FoOk p) (hp : Pair p q) (hl : p.length ≤ 1000) (hQ : Q (.bl (inB p q u v)) cs) : spBH [fD p, fD q, .tup [.int u, .int v]] cs Q X := ⟨_, _, _, _, rfl, h, hp, hl, hQ⟩
theorem ok_bh : okFn 7 (c_bar_holds spChg spPath) spBH := by
  rintro ds cs Q X ⟨p, q, u, v, rfl, h, hp, hl, hQ⟩
  show wpS (.seq (c_bar_holds_1 spChg spPath) (.seq (c_bar_holds_3 spChg spPath) (.seq (c_bar_holds_4 spChg spPath) (c_bar_holds_5 spChg spPath)))) [some (fD p), some (fD q), some (.tup [.int u, .int v]), none, none, none, none] cs _
  simp only [wpS]
  rw [c_bar_holds_1]
  simp only [wpS, wpE, wpEs, bindP, getV, List.set]
  rw [c_bar_holds_3]
  simp only [wpS, wpE, wpEs, bindP, getV, List.set]
  refine spChg_e hp hl ?_
  rw [sNotIn_e]
  simp only [getQ_lD]
  refine ⟨rfl, nI_flat, ?_⟩
  by_cases hu : ∃ i ∈ chg p q, u = (i : Nat)
  · obtain ⟨i, hi, rfl⟩ := hu
    have hil := chg_lt hi
    rw [inD_nI, decide_eq_true hi]
    simp only [Bool.not_true, Bool.false_eq_true, if_false]
    rw [c_bar_holds_4]
    simp only [wpS, wpE, wpEs, bindP, getV, List.set]
    refine spPath_e h hil hl ?_
    show 0 < 2 ∧ 2 ≤ (nI (path p i)).length + 1 ∧ _
    have l0 : 0 < (path p i).length := List.length_pos_iff.mpr (path_ne i)
    refine ⟨by decide, by rw [nI_len]; omega, ?_⟩
    rw [path_split, star_last]
    simp only [bindP, List.set]
    rw [c_bar_holds_5]
    simp only [wpS, wpE, wpEs, bindP, getV, List.set]
    rw [sIn_e]
    simp only [getQ_lD, getQ, G.getL]
    refine ⟨rfl, nI_flat, ?_⟩
    by_cases hv : ∃ a ∈ (path p i).dropLast, v = (a : Nat)
    · obtain ⟨a, ha, rfl⟩ := hv
      have hap := ((mem_drop h hil).mp ha).1
      have hal := path_lt h i hil a hap
      rw [inD_nI, decide_eq_true ha]
      simp only [if_true]
      simp [sIx_e, getQ_fD, ix_par (show a < q.length by rw [hp.len]; exact hal)]
      have e : inB p q i a = !decide (par q a = root p i) := by
        rw [Bool.eq_iff_iff, inB_iff]
        unfold wrong
        rw [List.mem_filter]
        simp [hi, ha]
      rw [e] at hQ
      simpa using hQ
    · have e : inB p q i v = false := by
        cases z : inB p q i v with
        | false => rfl
        | true =>
          obtain ⟨j, b, e1, e2, h1, h2⟩ := inB_lt z
          have : i = j := by omega
          subst this
          exact (hv ⟨b, (List.mem_filter.mp h2).1, e2⟩).elim
      rw [inD_far fun a ha z => hv ⟨a, ha, z⟩]
      rw [e] at hQ
      simpa using hQ
  · have e : inB p q u v = false := by
      cases z : inB p q u v with
      | false => rfl
      | true =>
        obtain ⟨j, b, e1, e2, h1, h2⟩ := inB_lt z
        exact (hu ⟨j, h1, e1⟩).elim
    rw [inD_far fun a ha z => hu ⟨a, ha, z⟩]
    simp only [Bool.not_false, if_true]
    rw [c_bar_holds_2]
    rw [e] at hQ
    exact hQ
def spBHP : Spec := fun ds cs Q X => spBH ds cs Q X ∨ ∃ p q, ∃ u v : Int, ∃ t f w, ds = [fD p, fD q, .tup [.int u, .int v]] ∧ p.length ≤ 1000 ∧ q.length ≤ 1000 ∧ pairE p q = some (t, f, w) ∧ X (er t f (.int w)) cs
theorem ok_bhP : okFn 7 (c_bar_holds spChgG spPath) spBHP := by
  rintro ds cs Q X (h | ⟨p, q, u, v, t, f, w, rfl, z⟩)
  · obtain ⟨p, q, u, v, rfl, z⟩ := h
    exact Or.inl (ok_bh _ cs Q X ⟨p, q, u, v, rfl, z⟩)
  · exact Or.inr ⟨_, _, t, f, w, rfl, z⟩
end G

/-! GTree: the roots in a list; a forest flattened; equal lists. -/
namespace G
theorem eqDs_n : ∀ {p q : List Nat}, eqDs (nI p) (nI q) = decide (p = q)
  | [], [] => rfl
  | [], _ :: _ => rfl
  | _ :: _, [] => rfl
  | x :: p, y :: q => by
    show (eqD (.int (x : Nat)) (.int (y : Nat)) && eqDs (nI p) (nI q)) = _
    rw [eqDs_n]
    simp only [eqD]
    rw [beqN]
    by_cases a : x = y <;> by_cases b : p = q <;> simp [a, b]
theorem sEq_lD {p q : List Nat} {cs : Cs} {Q : KD} {X : KX} (hp : p.length ≤ 16777216) (hq : q.length ≤ 16777216) (hQ : Q (.bl (decide (p = q))) cs) : sEq [lD p, lD q] cs Q X := by
  rw [sEq_e]
  refine ⟨pur_lD (k := 63) hp, pur_lD (k := 63) hq, ?_⟩
  have e : eqD (deref cs (lD p)) (deref cs (lD q)) = decide (p = q) := eqDs_n
  rw [e]
  exact hQ
def enumI (p : List Nat) : List D := (List.range p.length).map fun i => D.tup [.int (i : Nat), .int (par p i : Nat)]
theorem enumD_at : ∀ (xs : List D) (n : Int), enumD n xs = (List.range xs.length).map fun i => D.tup [.int (n + (i : Nat)), xs.getD i .non]
  | [], n => rfl
  | x :: r, n => by
    rw [enumD, enumD_at r (n + 1), List.length_cons, List.range_succ_eq_map, List.map_cons, List.map_map]
    congr 1
    · simp
    · refine List.map_congr_left fun i _ => ?_
      simp
      omega
theorem enum_fo {p : List Nat} : enumD 0 (nI p) = enumI p := by
  rw [enumD_at, nI_len]
  refine List.map_congr_left fun i hi => ?_
  have hi := List.mem_range.mp hi
  have := nI_get hi
  simp [List.getD, this, par_get hi]
def rtsN (p : List Nat) : List Nat := (List.range p.length).filter fun i => decide (par p i = i)
def spRts : Spec := fun ds cs Q _ => ∃ p : List Nat, ds = [fD p] ∧ p.length ≤ 1000 ∧ Q (lD (rtsN p)) cs
theorem spRts_e {p : List Nat} {cs : Cs} {Q : KD} {X : KX} (hl : p.length ≤ 1000) (hQ : Q (lD (rtsN p)) cs) : spRts [fD p] cs Q X := ⟨_, rfl, hl, hQ⟩
theorem ok_rts : okFn 3 c_roots_of spRts := by
  rintro ds cs Q X ⟨p, rfl, hl, hQ⟩
  show wpS c_roots_of_1 [some (fD p), none, none] cs _
  rw [c_roots_of_1]
  simp only [wpS, wpE, wpEs, getV]
  show compL _ _ _ _ _ _ (enumD 0 (nI p)) [] cs
  rw [enum_fo]
  refine compL_pure (fun d => match d with
    | .tup [.int v, _] => decide (par p v.toNat = v.toNat)
    | _ => false) (fun d => match d with
    | .tup [x, _] => x
    | d => d) trivial _ _ (fun d hd => ?_) (show _ ≤ 16777216 by simp [enumI]; omega) ?_
  · obtain ⟨c, hc, e⟩ := List.mem_map.mp hd
    subst e
    refine ⟨_, rfl, fun K hK => ?_, fun _ K hK => ?_⟩
    · simp only [wipe, List.set, getV, sEq_i]
      have e : (((par p c : Nat) : Int) == (c : Int)) = decide (par p c = c) := beqN
      rw [e]
      exact hK
    · exact hK
  · have e : (enumI p).filter (fun d => match d with
        | .tup [.int v, _] => decide (par p v.toNat = v.toNat)
        | _ => false) = (rtsN p).map fun i => D.tup [.int (i : Nat), .int (par p i : Nat)] := by
      unfold enumI rtsN
      rw [List.filter_map]
      rfl
    rw [e, List.nil_append, List.map_map, if_neg Bool.false_ne_true]
    exact hQ
def fltn (p : List Nat) : List Nat := (List.range p.length).map (root p)
def spFlat : Spec := fun ds cs Q _ => ∃ p : List Nat, ds = [fD p] ∧ FoOk p ∧ p.length ≤ 1000 ∧ Q (fD (fltn p)) cs
theorem spFlat_e {p : List Nat} {cs : Cs} {Q : KD} {X : KX} (h : FoOk p) (hl : p.length ≤ 1000) (hQ : Q (fD (fltn p)) cs) : spFlat [fD p] cs Q X := ⟨_, rfl, h, hl, hQ⟩
theorem ok_flat : okFn 2 (c_flattened spPath) spFlat := by
  rintro ds cs Q X ⟨p, rfl, h, hl, hQ⟩
  show wpS (c_flattened_1 spPath) [some (fD p), none] cs _
  rw [c_flattened_1]
  simp only [wpS, wpE, wpEs, getV, len_fD]
  refine ⟨by omega, by omega, ?_⟩
  rw [rgD_nI]
  refine compN (fun _ => true) (fun i => .int (root p i : Nat)) _ trivial (fun i hi => ⟨fun K hK => hK, fun _ K hK => ?_⟩) (show _ ≤ 16777216 by simp; omega) ?_
  · have hi := List.mem_range.mp hi
    simp only [wipe, List.set, getV]
    refine spPath_e h hi hl ?_
    simp only [sNeg_e, sIx_e, getQ_lD, ix_path]
    exact hK
  · rw [if_neg Bool.false_ne_true, List.filter_eq_self.mpr (by simp)]
    have e : (List.range p.length).map (fun i => D.int (root p i : Nat)) = nI (fltn p) := by
      unfold fltn nI
      rw [List.map_map]
      rfl
    rw [e]
    exact hQ
/-- the same roots -/
def alike (p q : List Nat) : Bool := (List.range p.length).all fun i => decide (root p i = root q i)
theorem root_fix {p : List Nat} (h : FoOk p) {i : Nat} (hi : i < p.length) : root p i = i ↔ par p i = i := ⟨fun e => by have := (root_lt h i hi).2; rwa [e] at this, root_root h hi⟩
theorem fltn_eq {p q : List Nat} (e : q.length = p.length) : decide (fltn p = fltn q) = alike p q := by
  rw [Bool.eq_iff_iff, decide_eq_true_iff]
  unfold fltn alike
  rw [e, List.all_eq_true]
  constructor
  · intro z i hi
    have hi := List.mem_range.mp hi
    have := congrArg (fun l => l[i]?) z
    simp [hi] at this
    simpa using this
  · intro z
    refine List.map_congr_left fun i hi => ?_
    simpa using z i hi
theorem rts_alike {p q : List Nat} (h : FoOk p) (h' : FoOk q) (e : q.length = p.length) (z : alike p q = true) : rtsN p = rtsN q := by
  unfold rtsN
  rw [e]
  refine List.filter_congr fun i hi => ?_
  have hi' := List.mem_range.mp hi
  have z := (List.all_eq_true.mp z) i hi
  have z : root p i = root q i := by simpa using z
  rw [decide_eq_decide, ← root_fix h hi', ← root_fix h' (by rw [e]; exact hi'), z]
theorem rts_len {p : List Nat} : (rtsN p).length ≤ p.length := Nat.le_trans (List.length_filter_le _ _) (by simp)
end G

/-! GUse2: small helpers for the laws: comprehensions, lengths, loops. -/
namespace G
theorem getQ_l {xs : List D} {cs : Cs} : getQ (.lst xs) cs = some xs := rfl
theorem comp_of {α : Type} {p : Pat} {grd : Cs → Prop} {σ : Sl} {tst elt : Sl → Cs → KD → Prop} {Q : List D → Cs → Prop} {cs : Cs} (f : α → D) (t : α → Bool) (g : α → D) (hg : grd cs) : ∀ (l : List α) (acc : List D),
    (∀ x ∈ l, ∃ σ1, bindP p [f x] σ = some σ1 ∧ (∀ K : KD, K (.bl (t x)) cs → tst σ1 cs K) ∧ (t x = true → ∀ K : KD, K (g x) cs → elt σ1 cs K)) →
    acc.length + l.length ≤ lim → Q (acc ++ (l.filter t).map g) cs → compL p grd σ tst elt Q (l.map f) acc cs
  | [], acc, _, _, hQ => ⟨hg, by simpa using hQ⟩
  | x :: xs, acc, h, hl, hQ => by
    obtain ⟨σ1, hb, ht, he⟩ := h x List.mem_cons_self
    refine ⟨hg, ?_⟩
    rw [hb]
    have ih := fun acc => comp_of (tst := tst) (elt := elt) (Q := Q) f t g hg xs acc fun y hy => h y (List.mem_cons_of_mem _ hy)
    have hl2 : acc.length + (xs.length + 1) ≤ lim := by simpa using hl
    refine ht _ ?_
    cases e : t x with
    | true =>
      refine .inl ⟨rfl, he e _ ⟨by omega, ih _ (by simp; omega) ?_⟩⟩
      simpa [e] using hQ
    | false =>
      refine .inr ⟨rfl, ih _ (by omega) ?_⟩
      simpa [e] using hQ
theorem grdS {x : D} {xs : List D} {cs : Cs} (h : isSeq x xs) : grdL x cs cs := by
  rcases h with rfl | rfl <;> trivial
theorem int_beq {a b : Nat} : (((a : Nat) : Int) == ((b : Nat) : Int)) = decide (a = b) := by
  by_cases h : a = b
  · subst h; simp
  · rw [decide_eq_false h]
    exact beq_false_of_ne (by omega)
theorem len_s {x : D} {xs : List D} {cs : Cs} {Q : KD} {X : KX} (h : isSeq x xs) : sLen [x] cs Q X = Q (.int (xs.length : Nat)) cs := by
  rcases h with rfl | rfl <;> rfl
theorem put_swap {cs : Cs} {n u : Nat} {a b : Ob} (ne : u ≠ n) : put (put cs u a) n b = put (put cs n b) u a := by
  funext k
  unfold put
  by_cases h : k = n
  · rw [if_pos h, if_neg (show ¬ k = u from fun z => ne (z.symm.trans h)), if_pos h]
  · rw [if_neg h]
    by_cases z : k = u
    · rw [if_pos z, if_pos z]
    · rw [if_neg z, if_neg z, if_neg h]
theorem rng2_invU {i : Nat} {body : Sl → Cs → Ends → Prop} {K : Ends} {σ : Sl} {cs : Cs} {a b : Int} (I : Nat → Sl → Cs → Prop) (hb : -(2 ^ 62) ≤ a ∧ a < 2 ^ 62 ∧ -(2 ^ 62) ≤ b ∧ b < 2 ^ 62) (h0 : I 0 σ cs)
    (hs : ∀ (j : Nat) σ cs, a + j < b → I j σ cs → ∀ K', (∀ σ' cs', I (j + 1) σ' cs' → K'.nx σ' cs') → body (σ.set i (some (.int (a + j)))) cs K') (hd : ∀ σ cs, I (b - a).toNat σ cs → K.nx σ cs) : iRng2 [.int a, .int b] cs fun items grd => forL (.nm i) grd body K items σ cs := by
  refine ⟨hb, forL_inv I _ 0 h0 (fun _ _ _ _ _ _ => trivial) (fun j x σ cs hj hI => ?_) (fun σ cs h => hd σ cs ?_)⟩
  · have e := rgD_get hj
    subst e
    have hj2 : j < (rgD a b).length := (List.getElem?_eq_some_iff.mp hj).1
    rw [rgD_length] at hj2
    rw [Nat.zero_add] at hI
    refine ⟨_, rfl, fun K' a1 a2 a3 a4 a5 => ?_⟩
    rw [Nat.zero_add] at a1
    exact hs j σ cs (by omega) hI K' a1
  · rw [Nat.zero_add, rgD_length] at h
    exact h
theorem l0 : (([] : List D).length ≤ lim) = True := eq_true (Nat.zero_le _)
theorem l1 {x : D} : ([x].length ≤ lim) = True := eq_true (show 1 ≤ 16777216 by decide)
theorem l2 {x y : D} : ([x, y].length ≤ lim) = True := eq_true (show 2 ≤ 16777216 by decide)
theorem l3 {x y z : D} : ([x, y, z].length ≤ lim) = True := eq_true (show 3 ≤ 16777216 by decide)
theorem l4 {x y z w : D} : ([x, y, z, w].length ≤ lim) = True := eq_true (show 4 ≤ 16777216 by decide)
theorem rep_e {x : D} {k : Int} {cs : Cs} {Q : KD} {X : KX} (h0 : 0 ≤ k) (hk : k ≤ 10) (hQ : Q (.lst (List.replicate k.toNat [x]).flatten) cs) : sRep [.lst [x], .int k] cs Q X := ⟨by omega, by omega, show 1 * k.toNat ≤ 16777216 by omega, hQ⟩
theorem comp2_of {α : Type} {p : Pat} {grd : Cs → Prop} {σ : Sl} {inn : Sl → List D → Cs → (List D → Cs → Prop) → Prop} {Q : List D → Cs → Prop} {cs : Cs} (f : α → D) (g : α → List D) (hg : grd cs) : ∀ (l : List α) (acc : List D),
    (∀ x ∈ l, ∀ acc (K : List D → Cs → Prop), acc.length + (g x).length ≤ lim → K (acc ++ g x) cs → ∃ σ1, bindP p [f x] σ = some σ1 ∧ inn σ1 acc cs K) → acc.length + (l.flatMap g).length ≤ lim → Q (acc ++ l.flatMap g) cs → comp2L p grd σ inn Q (l.map f) acc cs
  | [], acc, _, _, hQ => ⟨hg, by simpa using hQ⟩
  | x :: xs, acc, h, hl, hQ => by
    rw [List.flatMap_cons, List.length_append] at hl
    rw [List.flatMap_cons] at hQ
    have ih := comp2_of (inn := inn) (Q := Q) f g hg xs (acc ++ g x) (fun y hy => h y (List.mem_cons_of_mem _ hy)) (by rw [List.length_append]; omega) (by rw [List.append_assoc]; exact hQ)
    obtain ⟨σ1, hb, hi⟩ := h x List.mem_cons_self acc (fun ys cs' => comp2L p grd σ inn Q (xs.map f) ys cs') (by omega) ih
    refine ⟨hg, ?_⟩
    rw [hb]
    exact hi
end G

/-! GMost: fresh_nodes and most_total. -/
namespace G
section
variable {p : List Nat} {M : Nat → Bool}
/-- the new deep nodes at the start of a path -/
def frs (p ml : List Nat) (i : Nat) : List Nat := (path p i).takeWhile fun j => deep p j && !decide (j ∈ ml)
/-- the list of marked nodes and the marks -/
def Mks (p ml : List Nat) (M : Nat → Bool) : Prop := ∀ j, j < p.length → deep p j = true → (j ∈ ml ↔ M j = true)
theorem deep_par {j : Nat} : deep p j = decide (par p (par p j) ≠ par p j) := by
  unfold deep
  by_cases e : par p j = j
  · simp [e]
  · simp [e]
theorem gn_0 (h : FoOk p) (hM : MOk p M) {i : Nat} (hi : i < p.length) (e : M i = true) : gn p M i = 0 := by
  unfold gn
  rw [List.countP_eq_zero]
  intro j hj
  by_cases er : j = root p i
  · have : deep p j = false := by
      rw [deep_par, er]
      have := (root_lt h i hi).2
      simp [this]
    simp [this]
  · simp [up_all h hM i hi e j hj er]
theorem frs_len (h : FoOk p) (hM : MOk p M) {ml : List Nat} (hk : Mks p ml M) : ∀ i, i < p.length → (frs p ml i).length = gn p M i := by
  refine up_ind h (M := fun i => (frs p ml i).length = gn p M i) ?_ ?_
  · intro i hi e
    have d : deep p i = false := by rw [deep_par]; simp [e]
    rw [gn_root h hi e]
    unfold frs
    rw [path_root h hi e]
    simp [d]
  · intro i hi e ih
    have hp := par_lt h hi
    unfold frs gn at ih ⊢
    rw [path_step h hi e, List.countP_cons]
    cases d : deep p i with
    | true =>
      by_cases hm : i ∈ ml
      · have m := (hk i hi d).mp hm
        have z := gn_0 h hM hi m
        unfold gn at z
        rw [path_step h hi e, List.countP_cons] at z
        rw [List.takeWhile_cons_of_neg (by simp [hm])]
        rw [List.countP_eq_zero.mpr]
        · simp [m]
        · intro x hx
          have := List.countP_eq_zero.mp (Nat.eq_zero_of_add_eq_zero_right z) x hx
          exact this
      · have m : M i = false := by
          cases m : M i with
          | true => exact absurd ((hk i hi d).mpr m) hm
          | false => rfl
        rw [List.takeWhile_cons_of_pos (by simp [d, hm])]
        simp [m]
        exact ih
    | false =>
      rw [List.takeWhile_cons_of_neg (by simp [d])]
      rw [deep_par] at d
      have d : par p (par p i) = par p i := by simpa using d
      have z := gn_root (M := M) h hp d
      unfold gn at z
      rw [z]
      simp
theorem tw_mem {α : Type} {f : α → Bool} {x : α} : ∀ {l : List α}, x ∈ l.takeWhile f → f x = true
  | [], h => by simp at h
  | a :: l, h => by
    cases e : f a with
    | true =>
      rw [List.takeWhile_cons_of_pos e] at h
      rcases List.mem_cons.mp h with h | h
      · rw [h]; exact e
      · exact tw_mem h
    | false =>
      rw [List.takeWhile_cons_of_neg (by simp [e])] at h
      simp at h
theorem frs_mem {ml : List Nat} {i j : Nat} (hj : j ∈ frs p ml i) : j ∈ path p i ∧ deep p j = true := by
  refine ⟨List.takeWhile_subset _ hj, ?_⟩
  have := tw_mem hj
  simp at this
  exact this.1
theorem frs_or (h : FoOk p) (hM : MOk p M) {ml : List Nat} (hk : Mks p ml M) : ∀ i, i < p.length → ∀ j ∈ path p i, deep p j = true → j ∈ frs p ml i ∨ M j = true := by
  refine up_ind h (M := fun i => ∀ j ∈ path p i, deep p j = true → j ∈ frs p ml i ∨ M j = true) ?_ ?_
  · intro i hi e j hj d
    rw [path_root h hi e] at hj
    rw [List.mem_singleton.mp hj, deep_par] at d
    simp [e] at d
  · intro i hi e ih j hj d
    have hp := par_lt h hi
    have hj0 := hj
    rw [path_step h hi e] at hj
    unfold frs at ih ⊢
    rw [path_step h hi e]
    cases di : deep p i with
    | true =>
      by_cases hm : i ∈ ml
      · have m := (hk i hi di).mp hm
        right
        refine up_all h hM i hi m j hj0 fun er => ?_
        rw [er, deep_par] at d
        have := (root_lt h i hi).2
        simp [this] at d
      · rw [List.takeWhile_cons_of_pos (by simp [di, hm])]
        rcases List.mem_cons.mp hj with hj | hj
        · left; rw [hj]; exact List.mem_cons_self
        · rcases ih j hj d with q | q
          · left; exact List.mem_cons_of_mem _ q
          · right; exact q
    | false =>
      rw [deep_par] at di
      have di : par p (par p i) = par p i := by simpa using di
      rcases List.mem_cons.mp hj with hj | hj
      · rw [hj, deep_par] at d
        simp [di] at d
      · rw [path_root h hp di] at hj
        rw [List.mem_singleton.mp hj, deep_par] at d
        simp [di] at d
theorem mks_more (h : FoOk p) (hM : MOk p M) {ml : List Nat} (hk : Mks p ml M) {i : Nat} (hi : i < p.length) : Mks p (ml ++ frs p ml i) (more p M i) := by
  intro j hj d
  unfold more
  rw [List.mem_append, Bool.or_eq_true]
  constructor
  · rintro (q | q)
    · left; exact (hk j hj d).mp q
    · right
      have q1 := (frs_mem q).1
      rw [Bool.and_eq_true]
      refine ⟨decide_eq_true q1, decide_eq_true fun er => ?_⟩
      have := (root_lt h i hi).2
      rw [er, deep_par] at d
      simp [this] at d
  · rintro (q | q)
    · left; exact (hk j hj d).mpr q
    · rw [Bool.and_eq_true] at q
      rcases frs_or h hM hk i hi j (of_decide_eq_true q.1) d with z | z
      · right; exact z
      · left; exact (hk j hj d).mpr z
theorem mks_nil : Mks p [] (fun _ => false) := fun j _ _ => by simp
theorem frs_le (h : FoOk p) {ml : List Nat} {i : Nat} (hi : i < p.length) : (frs p ml i).length ≤ p.length :=
  Nat.le_trans (List.takeWhile_prefix (p := fun j => deep p j && !decide (j ∈ ml)) |>.length_le) (path_le h hi)
end
def spFr : Spec := fun ds cs Q _ => ∃ p i ml, ds = [fD p, .int (i : Nat), lD ml] ∧ FoOk p ∧ i < p.length ∧ p.length ≤ 1000 ∧ Q (lD (frs p ml i)) cs
theorem spFr_e {p ml : List Nat} {i : Nat} {cs : Cs} {Q : KD} {X : KX} (h : FoOk p) (hi : i < p.length) (hl : p.length ≤ 1000) (hQ : Q (lD (frs p ml i)) cs) : spFr [fD p, .int (i : Nat), lD ml] cs Q X := ⟨_, _, _, rfl, h, hi, hl, hQ⟩
theorem frs_fr {p ml : List Nat} {j : Nat} (h : FoOk p) (hj : j < p.length) : frs p ml j = if (deep p j && !decide (j ∈ ml)) = true then j :: frs p ml (par p j) else [] := by
  unfold frs
  by_cases e : par p j = j
  · have d : deep p j = false := by rw [deep_par]; simp [e]
    rw [path_root h hj e]
    simp [d]
  · rw [path_step h hj e]
    cases d : deep p j <;> by_cases m : j ∈ ml <;> simp [d, m]
theorem ok_fr : okFn 4 c_fresh_nodes spFr := by
  rintro ds cs Q X ⟨p, i, ml, rfl, h, hi, hl, hQ⟩
  show wpS (.seq c_fresh_nodes_1 (.seq c_fresh_nodes_4 (.seq (.frz 3) c_fresh_nodes_5))) [some (fD p), some (.int (i : Nat)), some (lD ml), none] cs _
  simp only [wpS]
  rw [c_fresh_nodes_1]
  simp only [wpS, wpE, wpEs, bindP, getV, List.set, sListM_e]
  refine ⟨Nat.zero_le _, fun n hn => ?_⟩
  obtain ⟨r, hr⟩ := h
  have h : FoOk p := ⟨r, hr⟩
  rw [c_fresh_nodes_4]
  simp only [wpS]
  refine ⟨r i + 1, whl_inv (fun m σ c => ∃ pre j, c = put cs n (.lst (nI pre)) ∧ σ = [some (fD p), some (.int (j : Nat)), some (lD ml), some (.ref n)] ∧ pre ++ frs p ml j = frs p ml i ∧ j < p.length ∧ r j = m) ?_ _ (r i) _ _ (Nat.lt_succ_self _) ⟨[], i, rfl, rfl, rfl, hi, rfl⟩⟩
  rintro m σ c ⟨pre, j, rfl, rfl, hp, hj, rfl⟩
  have hpj := par_lt h hj
  have lp : pre.length ≤ 1000 := by
    have l1 := congrArg List.length hp
    have l3 := frs_le h (ml := ml) hi
    rw [List.length_append] at l1
    omega
  have fr := frs_fr (ml := ml) h hj
  refine ⟨deep p j && !decide (j ∈ ml), fun Q' X' hQ' => ?_, fun e => ?_, fun e K' h1 h2 h3 h4 h5 => ?_⟩
  · simp only [wpE, wpEs, getV]
    rw [sIx_l getQ_fD (ix_par hj), sIx_l getQ_fD (ix_par hpj), sIx_l getQ_fD (ix_par hj), sNe_i]
    have e1 : ((((par p (par p j) : Nat) : Int) == ((par p j : Nat) : Int))) = decide (par p (par p j) = par p j) := beqN
    rw [e1, ← decide_not, ← deep_par]
    cases d : deep p j with
    | false =>
      rw [d] at hQ'
      simpa using hQ'
    | true =>
      rw [d] at hQ'
      simp [sNotIn_e, getQ_lD, inD_nI]
      exact ⟨rfl, by simpa using hQ'⟩
  · rw [e] at fr
    rw [fr] at hp
    simp at hp
    rw [c_fresh_nodes_5]
    simp
    rw [del_put hn, hp]
    exact hQ
  · rw [e, if_pos rfl] at fr
    have d : deep p j = true := by
      cases d : deep p j with
      | true => rfl
      | false => rw [d] at e; cases e
    have ne : par p j ≠ j := by
      intro z
      rw [deep_par] at d
      simp [z] at d
    rw [c_fresh_nodes_2, c_fresh_nodes_3]
    simp [sIx_e, getQ_fD, ix_par hj]
    refine ⟨show _ < 16777216 by omega, h1 (r (par p j)) _ _ (((hr j hj).2.2).resolve_left ne) ⟨pre ++ [j], par p j, ?_, rfl, ?_, (hr j hj).1, rfl⟩⟩
    · simp [nI]
    · rw [← hp, fr]
      simp
theorem asBools_of {α : Type} {f : α → Bool} : ∀ xs : List α, asBools (xs.map fun a => D.bl (f a)) = some (xs.map f)
  | [] => rfl
  | x :: xs => by
    show (asBools (xs.map fun a => D.bl (f a))).map (f x :: ·) = _
    rw [asBools_of xs]
    rfl
def spMost : Spec := fun ds cs Q _ => ∃ p k, ds = [fD p, .int (k : Nat)] ∧ FoOk p ∧ p.length ≤ 1000 ∧ k ≤ 20 ∧ ∀ v : Nat, IsMost p k v → Q (.int (v : Nat)) cs
theorem spMost_e {p : List Nat} {k : Nat} {cs : Cs} {Q : KD} {X : KX} (h : FoOk p) (hl : p.length ≤ 1000) (hk : k ≤ 20) (hQ : ∀ v : Nat, IsMost p k v → Q (.int (v : Nat)) cs) : spMost [fD p, .int (k : Nat)] cs Q X := ⟨_, _, rfl, h, hl, hk, hQ⟩
theorem allR_iff {p : List Nat} : ((List.range p.length).map fun i => ((par p i : Int) == (i : Int))).all id = true ↔ AllR p := by
  rw [List.all_map, List.all_eq_true]
  unfold AllR
  constructor
  · intro h i hi
    have := h i (List.mem_range.mpr hi)
    simp at this
    omega
  · intro h i hi
    have := h i (List.mem_range.mp hi)
    simp [this]
theorem ok_most : okFn 9 (c_most_total spTm0 spFr) spMost := by
  rintro ds cs Q X ⟨p, k, rfl, h, hl, hk, hQ⟩
  show wpS (.seq (c_most_total_1 spTm0 spFr) (.seq (c_most_total_3 spTm0 spFr) (.seq (c_most_total_4 spTm0 spFr) (.seq (c_most_total_9 spTm0 spFr) (c_most_total_10 spTm0 spFr))))) [some (fD p), some (.int (k : Nat)), none, none, none, none, none, none, none] cs _
  simp only [wpS]
  rw [c_most_total_1]
  simp only [wpS, wpE, wpEs, getV]
  refine ⟨_, rfl, by omega, by omega, ?_⟩
  rw [c_most_total_3]
  simp only [wpS, wpE, wpEs, getV]
  show compL _ _ _ _ _ _ (enumD 0 (nI p)) [] cs
  refine comp_enF (fun _ => true) (fun i => .bl ((par p i : Int) == (i : Int))) trivial hl (fun c hc => ⟨fun K hK => hK, fun K hK => ?_⟩) ?_
  · simp only [wipe, List.set, getV, sEq_i]
    exact hK
  rw [if_neg Bool.false_ne_true, List.filter_eq_self.mpr (fun _ _ => rfl), sAll_e]
  simp only [getL, asBools_of]
  by_cases ar : AllR p
  · rw [if_pos (allR_iff.mpr ar), c_most_total_2]
    simp only [wpS, wpE]
    exact hQ 0 (.inl ⟨ar, rfl⟩)
  rw [if_neg fun z => ar (allR_iff.mp z)]
  have hn : ∃ i, i < p.length ∧ par p i ≠ i := Classical.byContradiction fun z => ar fun i hi => Classical.byContradiction fun e => z ⟨i, hi, e⟩
  have h0 : 0 < p.length := by obtain ⟨i, hi, _⟩ := hn; omega
  rw [c_most_total_4]
  simp only [wpS, wpE, wpEs, getV, sList_e, sTup_e]
  refine ⟨Nat.zero_le _, show 2 ≤ 16777216 by decide, ?_⟩
  simp only [bindP, List.set]
  rw [c_most_total_9]
  simp only [wpS, wpE, wpEs, getV]
  refine rng1_inv (fun j σ c => c = cs ∧ ∃ xs ml b4 b5 b6, xs.length = j ∧ Greedy p (fun _ => false) xs ∧ Mks p ml (mores p (fun _ => false) xs) ∧ ml.length ≤ 1000 * j ∧ σ = [some (fD p), some (.int (k : Nat)), some (lD ml), some (.int (dm p (mores p (fun _ => false) xs) : Nat)), b4, b5, b6, none, none]) (by omega) (by omega) ⟨rfl, [], [], none, none, none, rfl, trivial, mks_nil, by simp, by
    have : dm p (mores p (fun _ => false) []) = 0 := by
      unfold dm mores
      rw [List.countP_eq_zero]
      intro j _
      simp
    rw [this]
    rfl⟩ ?_ ?_
  · rintro j σ c hj ⟨rfl, xs, ml, b4, b5, b6, lx, hg, hm, lm, rfl⟩ K' n1 n2 n3 n4 n5
    have hj : j < k := by omega
    have hx := greedy_lt hg
    have hM := mores_ok h xs _ no_ok hx
    simp only [List.set]
    rw [c_most_total_5]
    simp only [wpS, wpE, wpEs, getV, len_fD]
    refine ⟨by omega, by omega, ?_⟩
    rw [rgD_nI]
    refine compF (fun i => prI ((gn p (mores p (fun _ => false) xs) i : Nat), -(i : Nat))) _ trivial (fun i hi => ⟨fun K hK => hK, fun K hK => ?_⟩) (show _ ≤ 16777216 by simp; omega) ?_
    · have hi := List.mem_range.mp hi
      simp only [wipe, List.set, getV]
      refine spFr_e h hi hl ?_
      have : getQ (lD (frs p ml i)) c = some (nI (frs p ml i)) := rfl
      show sLen [lD (frs p ml i)] c _ _
      rw [len_lD]
      simp only [sNeg_e, sTup_e]
      refine ⟨show 2 ≤ 16777216 by decide, ?_⟩
      rw [frs_len h hM hm i hi]
      exact hK
    rw [if_neg Bool.false_ne_true]
    simp only [bindP, List.set]
    rw [c_most_total_6]
    simp only [wpS, wpE, wpEs, getV]
    refine ⟨_, (List.range p.length).map fun i => ((gn p (mores p (fun _ => false) xs) i : Int), -(i : Int)), rfl, by simp [getL], by
      intro z
      rw [List.map_eq_nil_iff, List.range_eq_nil] at z
      omega, fun m hm1 hm2 => ?_⟩
    obtain ⟨g, hgl, rfl⟩ := List.mem_map.mp hm1
    have hgl := List.mem_range.mp hgl
    have best : Best p (mores p (fun _ => false) xs) g := ⟨hgl, fun i hi => by
      have := hm2 _ (List.mem_map.mpr ⟨i, List.mem_range.mpr hi, rfl⟩)
      unfold pLe at this
      simp at this
      omega⟩
    simp only [bindP, List.set]
    rw [c_most_total_7]
    simp only [wpS, wpE, wpEs, getV]
    unfold prI
    rw [sIx_l (xs := [.int (gn p (mores p (fun _ => false) xs) g : Nat), .int (-(g : Nat))]) rfl rfl]
    refine ⟨trivial, ?_⟩
    simp only [bindP, List.set]
    rw [c_most_total_8]
    simp only [wpS, wpE, wpEs, getV]
    rw [sIx_l (xs := [.int (gn p (mores p (fun _ => false) xs) g : Nat), .int (-(g : Nat))]) rfl rfl]
    simp only [sNeg_e, Int.neg_neg]
    refine spFr_e h hgl hl ?_
    show sAdd [.lst _, .lst _] _ _ _
    rw [sAdd_l]
    have lf := frs_le h (ml := ml) hgl
    refine ⟨show _ ≤ 16777216 by simp; omega, ?_⟩
    simp only [bindP, List.set]
    have e2 : D.lst (nI ml ++ nI (frs p ml g)) = lD (ml ++ frs p ml g) := by simp [lD, nI]
    have e1 : (dm p (mores p (fun _ => false) xs) : Int) + (gn p (mores p (fun _ => false) xs) g : Int) = (dm p (mores p (fun _ => false) (xs ++ [g])) : Nat) := by
      rw [mores_app, mores, mores, dm_more h hM hgl]
      rfl
    rw [e1, e2]
    refine n1 _ _ ⟨rfl, xs ++ [g], ml ++ frs p ml g, _, _, _, by simp [lx], greedy_app hg best, ?_, by simp; omega, rfl⟩
    rw [mores_app, mores, mores]
    exact mks_more h hM hm hgl
  · rintro σ c ⟨rfl, xs, ml, b4, b5, b6, lx, hg, hm, lm, rfl⟩
    have ek : ((k : Nat) : Int).toNat = k := Int.toNat_natCast k
    rw [ek] at lx
    rw [c_most_total_10]
    simp only [wpS, wpE, wpEs, getV, sAdd_i]
    exact hQ (k + dm p (mores p (fun _ => false) xs)) (.inr ⟨hn, xs, lx, hg, rfl⟩)
end G

/-! GEq: the weakest preconditions one step at a time. -/
namespace G
theorem wpE_v {i : Nat} {σ : Sl} {cs : Cs} {Q : KD} {X : KX} : wpE (.v i) σ cs Q X = match getV σ i with
    | some d => Q d cs
    | none => False := by first | (rw [wpE]; cases getV σ i <;> rfl) | rw [wpE]
theorem wpE_c {d : D} {σ : Sl} {cs : Cs} {Q : KD} {X : KX} : wpE (.c d) σ cs Q X = Q d cs := by rw [wpE]
theorem wpE_app {sp : Spec} {as : Es} {σ : Sl} {cs : Cs} {Q : KD} {X : KX} : wpE (.app sp as) σ cs Q X = wpEs as σ cs (fun ds cs' => sp ds cs' Q X) X := by rw [wpE]
theorem wpE_meth {chk : D → Cs → Prop} {sp : Spec} {o : E} {as : Es} {σ : Sl} {cs : Cs} {Q : KD} {X : KX} : wpE (.meth chk sp o as) σ cs Q X = wpE o σ cs (fun d c1 => chk d c1 ∧ wpEs as σ c1 (fun ds c2 => sp (d :: ds) c2 Q X) X) X := by rw [wpE]
theorem wpE_ite {c a b : E} {σ : Sl} {cs : Cs} {Q : KD} {X : KX} : wpE (.ite c a b) σ cs Q X = wpE c σ cs (fun d cs' => match d with
    | .bl k => if k = true then wpE a σ cs' Q X else wpE b σ cs' Q X
    | _ => False) X := by first | (rw [wpE]; congr 1) | rw [wpE]
theorem wpE_comp {m : Bool} {own : List Nat} {p : Pat} {it : ISpec} {as : Es} {c e : E} {σ : Sl} {cs : Cs} {Q : KD} {X : KX} : wpE (.comp m own p it as c e) σ cs Q X = wpEs as σ cs (fun ds c1 => it ds c1 fun items grd =>
      compL p grd (wipe σ own) (fun σ1 c2 K => wpE c σ1 c2 K (fun _ _ => False)) (fun σ1 c2 K => wpE e σ1 c2 K (fun _ _ => False))
        (fun ys c3 => if m = true then ∀ n, c3 n = none → Q (.ref n) (put c3 n (.lst ys)) else Q (.lst ys) c3) items [] c1) X := by rw [wpE]
theorem wpEs_nil {σ : Sl} {cs : Cs} {Q : List D → Cs → Prop} {X : KX} : wpEs .nil σ cs Q X = Q [] cs := by rw [wpEs]
theorem wpEs_cons {e : E} {es : Es} {σ : Sl} {cs : Cs} {Q : List D → Cs → Prop} {X : KX} : wpEs (.cons e es) σ cs Q X = wpE e σ cs (fun d c1 => wpEs es σ c1 (fun ds c2 => Q (d :: ds) c2) X) X := by rw [wpEs]
/-- a condition that is known -/
theorem wpE_ifb {c a b : E} {σ : Sl} {cs : Cs} {Q : KD} {X : KX} (k : Bool) (hc : ∀ Q : KD, Q (.bl k) cs → wpE c σ cs Q X) (ha : k = true → wpE a σ cs Q X) (hb : k = false → wpE b σ cs Q X) : wpE (.ite c a b) σ cs Q X := by
  rw [wpE_ite]
  refine hc _ ?_
  cases k with
  | true => exact ha rfl
  | false => exact hb rfl
end G

namespace K41
open G
open PySem (Str)
def asD (l : List (List Nat)) : List D := l.map lD
abbrev Lw (c : G.Spec → G.Spec → G.Spec → G.Spec → G.Spec → G.Spec → G.Spec → S) : S := c spAll (spSR 3) spSome spStart spTake spMost spRts
def nxt (n : Nat) (l : List Nat) : List (List Nat) := (List.range' (l.getLastD 0) (n - l.getLastD 0)).map fun x => l ++ [x]
theorem nxt_eq {n k : Nat} : asc n (k + 1) = (asc n k).flatMap (nxt n) := rfl
theorem asc_lt {n k : Nat} (hn : n ≤ 6) (hk : k ≤ 4) : (asc n k).length ≤ 1296 := by
  have a := asc_len n k
  have b : n ^ k ≤ 6 ^ k := Nat.pow_le_pow_left hn k
  have c : 6 ^ k ≤ 6 ^ 4 := Nat.pow_le_pow_right (by decide) hk
  omega
theorem ix_lst {l : List Nat} (h : l ≠ []) : ix (nI l) (-1) = some (.int (l.getLastD 0 : Nat)) := by
  rw [← List.dropLast_concat_getLast h]
  rw [ix_lastI]
  simp
theorem rgD_rng {a b : Nat} : rgD (a : Int) (b : Int) = nI (List.range' a (b - a)) := by
  unfold rgD nI
  rw [show ((b : Int) - (a : Int)).toNat = b - a by omega, List.range'_eq_map_range, List.map_map]
  refine List.map_congr_left fun i _ => ?_
  show D.int ((a : Int) + (i : Nat)) = D.int (((a + i : Nat)) : Int)
  congr 1
theorem last_e {i : Nat} {q : List Nat} {σ : Sl} {cs : Cs} {Q : KD} {X : KX} (h : getV σ i = some (lD q)) (hl : q.length ≤ 16777216) (hQ : Q (.int (q.getLastD 0 : Nat)) cs) :
    wpE (.ite (.app sNe (.cons (.v i) (.cons (.app sList .nil) .nil))) (.app sIx (.cons (.v i) (.cons (.app sNeg (.cons (.c (.int 1)) .nil)) .nil))) (.c (.int 0))) σ cs Q X := by
  refine wpE_ifb (!decide (q = [])) (fun K hK => ?_) (fun e => ?_) fun e => ?_
  · rw [wpE_app, wpEs_cons, wpE_v, h]
    dsimp only
    rw [wpEs_cons, wpE_app, wpEs_nil, sList_e]
    refine ⟨Nat.zero_le _, ?_⟩
    rw [wpEs_nil]
    rw [show D.lst [] = lD [] from rfl, sNe_lL hl (Nat.zero_le _)]
    exact hK
  · have ne : q ≠ [] := by simpa using e
    rw [wpE_app, wpEs_cons, wpE_v, h]
    dsimp only
    rw [wpEs_cons, wpE_app, wpEs_cons, wpE_c, wpEs_nil]
    simp only [sNeg, wpEs_nil]
    rw [sIx_l rfl (ix_lst ne)]
    exact hQ
  · have : q = [] := by simpa using e
    subst this
    rw [wpE_c]
    exact hQ
theorem lines {n : Nat} {cs : Cs} {K : Ends} {p : List Nat} {k : Nat} (hl : p.length ≤ 6) (hk : k ≤ 4) {a2 a7 a8 a9 a10 a11 a12 : Option D}
    (hN : ∀ b7 b8 b9, K.nx [some .scr, some (.ref n), a2, some (fD p), some (.int (p.length : Nat)), some (.int (k : Nat)), some (.lst (asD (asc p.length k))), b7, b8, b9, a10, a11, a12, none] cs) :
    wpS (Lw c_law_9) [some .scr, some (.ref n), a2, some (fD p), some (.int (p.length : Nat)), some (.int (k : Nat)), some (.lst (asD (asc p.length 0))), a7, a8, a9, a10, a11, a12, none] cs K := by
  simp only [Lw]
  rw [c_law_9]
  simp only [wpS, wpE, wpEs, getV]
  refine rng1_inv (fun j σ c => c = cs ∧ j ≤ k ∧ ∃ b7 b8 b9 : Option D, σ = [some .scr, some (.ref n), a2, some (fD p), some (.int (p.length : Nat)), some (.int (k : Nat)), some (.lst (asD (asc p.length j))), b7, b8, b9, a10, a11, a12, none]) (by omega) (by omega) ⟨rfl, Nat.zero_le _, _, _, _, rfl⟩ ?_ ?_
  · rintro j σ c hj ⟨rfl, _, b7, b8, b9, rfl⟩ K' n1 n2 n3 n4 n5
    have hj : j < k := by omega
    have lj := asc_lt (n := p.length) (k := j) hl (by omega)
    simp only [List.set]
    rw [c_law_5]
    simp only [wpS, wpE, wpEs, sListM_e]
    refine ⟨Nat.zero_le _, fun m hm => ?_⟩
    simp only [bindP, List.set]
    rw [c_law_7]
    simp only [wpS, wpE, wpEs, getV]
    have flen : ∀ i, (((asc p.length j).take i).flatMap (nxt p.length)).length ≤ 1296 * 6 := fun i => by
      refine Nat.le_trans (flatMap_le (n := 6) _ fun q _ => by unfold nxt; simp; omega) ?_
      refine Nat.mul_le_mul_right 6 ?_
      rw [List.length_take]
      omega
    refine iSeq_e (.inl rfl) (forL_inv (fun i σ c' => c' = put c m (.lst (asD (((asc p.length j).take i).flatMap (nxt p.length)))) ∧ ∃ b9 : Option D, σ = [some .scr, some (.ref n), a2, some (fD p), some (.int (p.length : Nat)), some (.int (k : Nat)), some (.lst (asD (asc p.length j))), some (.int (j : Nat)), some (.ref m), b9, a10, a11, a12, none]) _ 0 ⟨rfl, b9, rfl⟩ (fun _ _ _ _ _ _ => trivial) ?_ ?_)
    · rintro i d σ c' hd ⟨rfl, b9, rfl⟩
      rw [Nat.zero_add] at *
      unfold asD at hd
      rw [List.getElem?_map] at hd
      obtain ⟨q, hq, rfl⟩ := Option.map_eq_some_iff.mp hd
      have hmem : q ∈ asc p.length j := List.mem_of_getElem? hq
      obtain ⟨q1, q2⟩ := asc_ok j q hmem
      refine ⟨_, rfl, fun K2 g1 g2 g3 g4 g5 => ?_⟩
      simp only [List.set]
      rw [c_law_6]
      rw [wpS, wpE_meth, wpE_v]
      dsimp only [getV]
      refine ⟨by unfold chkL; simp [G.getL, put_same], ?_⟩
      rw [wpEs_cons, wpE_comp, wpEs_cons]
      refine last_e rfl (by omega) ?_
      simp only [wpEs, wpE, getV]
      have lstB : q.getLastD 0 ≤ 6 := by
        by_cases e : q = []
        · subst e; exact Nat.zero_le _
        · rw [List.getLastD_eq_getLast?, List.getLast?_eq_some_getLast e]
          have := q2 _ (List.getLast_mem e)
          show q.getLast e ≤ 6
          omega
      refine ⟨⟨by omega, by omega, by omega, by omega⟩, ?_⟩
      rw [rgD_rng]
      refine compF (fun x => lD (q ++ [x])) _ trivial (fun x hx => ⟨fun K h => h, fun K hK => ?_⟩) (by simp; omega) ?_
      · simp only [wipe, List.set, getV, wpE, wpEs, sList_e]
        refine ⟨show 1 ≤ 16777216 by decide, ?_⟩
        refine ⟨show _ ≤ 16777216 by simp; omega, ?_⟩
        have e : D.lst (nI q ++ [.int (x : Nat)]) = lD (q ++ [x]) := by
          unfold lD
          rw [nI_app]
          rfl
        rw [e]
        exact hK
      · rw [if_neg Bool.false_ne_true]
        have e1 : ((asc p.length j).take (i + 1)).flatMap (nxt p.length) = ((asc p.length j).take i).flatMap (nxt p.length) ++ nxt p.length q := by
          rw [List.take_add_one, hq, List.flatMap_append]
          simp
        have e2 : (List.range' (q.getLastD 0) (p.length - q.getLastD 0)).map (fun x => lD (q ++ [x])) = asD (nxt p.length q) := by
          unfold asD nxt
          rw [List.map_map]
          rfl
        rw [e2]
        refine sExtend_e put_same rfl ?_ ?_
        · have := flen (i + 1)
          rw [e1] at this
          unfold asD
          rw [List.length_append] at this
          show _ ≤ 16777216
          rw [List.length_map, List.length_map]
          omega
        · rw [put_put]
          have e3 : asD (((asc p.length j).take i).flatMap (nxt p.length)) ++ asD (nxt p.length q) = asD (((asc p.length j).take (i + 1)).flatMap (nxt p.length)) := by
            rw [e1]
            unfold asD
            rw [List.map_append]
          rw [e3]
          exact g1 _ _ ⟨rfl, _, rfl⟩
    · rintro σ c' ⟨rfl, b9, rfl⟩
      simp only [wpS, getV, put_same, List.set]
      rw [del_put hm, c_law_8]
      simp only [wpS, wpE, getV, bindP, List.set]
      rw [Nat.zero_add]
      have : ((asc p.length j).take ((asD (asc p.length j)).length)) = asc p.length j := by
        refine List.take_of_length_le ?_
        simp [asD]
      rw [this]
      exact n1 _ _ ⟨rfl, by omega, _, _, _, rfl⟩
  · rintro σ c ⟨rfl, _, b7, b8, b9, rfl⟩
    have : ((k : Nat) : Int).toNat = k := Int.toNat_natCast k
    rw [this]
    exact hN _ _ _
theorem most_max {p : List Nat} (h : FoOk p) {k v : Nat} (hv : IsMost p k v) {m : Int} (hm : m ∈ ((asc p.length k).map fun l => (((fndAll p l).2.sum : Nat) : Int)) ++ [0]) (hM : ∀ y ∈ ((asc p.length k).map fun l => (((fndAll p l).2.sum : Nat) : Int)) ++ [0], y ≤ m) : m = (v : Nat) := by
  have a : m ≤ (v : Nat) := by
    rcases List.mem_append.mp hm with hm | hm
    · obtain ⟨l, hl, rfl⟩ := List.mem_map.mp hm
      obtain ⟨l1, l2⟩ := asc_ok k l hl
      have := most_ub h hv l1 l2
      omega
    · have : m = 0 := by simpa using hm
      omega
  have b : ((v : Nat) : Int) ≤ m := by
    rcases most_at h hv with e | ⟨l, hl, e⟩
    · have := hM 0 (by simp)
      omega
    · have := hM _ (List.mem_append_left _ (List.mem_map.mpr ⟨l, hl, rfl⟩))
      rw [e] at this
      exact this
  omega
theorem rts_all {p : List Nat} : decide (rtsN p = List.range p.length) = true ↔ AllR p := by
  rw [decide_eq_true_eq]
  unfold rtsN AllR
  rw [List.filter_eq_self]
  constructor
  · intro h i hi
    exact of_decide_eq_true (h i (List.mem_range.mpr hi))
  · intro h i hi
    exact decide_eq_true (h i (List.mem_range.mp hi))
def St (n : Nat) (σ : Sl) : Prop := ∃ a2 a3 a4 a5 a6 a7 a8 a9 a10 a11 a12 : Option D, σ = [some .scr, some (.ref n), a2, a3, a4, a5, a6, a7, a8, a9, a10, a11, a12, none]
theorem turn {n : Nat} {cs : Cs} {K : Ends} (hc : cs n = some .drw) (hN : ∀ σ, St n σ → K.nx σ cs) {σ : Sl} (hs : St n σ) :
    wpS (.seq (Lw c_law_2) (.seq (Lw c_law_3) (.seq (Lw c_law_4) (.seq (Lw c_law_9) (.seq (Lw c_law_10) (.seq (Lw c_law_12) (.seq (Lw c_law_13) (.seq (Lw c_law_14) (Lw c_law_16))))))))) σ cs K := by
  obtain ⟨a2, a3, a4, a5, a6, a7, a8, a9, a10, a11, a12, rfl⟩ := hs
  rw [wpS]
  simp only [Lw]
  rw [c_law_2]
  simp only [wpS, wpE, wpEs, bindP, getV, List.set]
  refine spSome_e hc (by omega) (by omega) fun p hp hpl => ?_
  have hl : p.length ≤ 6 := by omega
  rw [c_law_3]
  simp only [wpS, wpE, wpEs, bindP, getV, List.set]
  show sLen [fD p] cs _ _
  rw [len_s (x := fD p) (xs := nI p) (.inr rfl), spTake_e]
  refine ⟨hc, by omega, by omega, fun r r0 r5 => ?_⟩
  obtain ⟨k, rfl⟩ := Int.eq_ofNat_of_zero_le r0
  have hk : k ≤ 4 := by omega
  refine ⟨show 2 ≤ 16777216 by decide, ?_⟩
  rw [nI_len]
  rw [c_law_4]
  simp only [wpS, wpE, wpEs, bindP, getV, List.set, sList_e]
  refine ⟨Nat.zero_le _, show 1 ≤ 16777216 by decide, ?_⟩
  refine lines (p := p) (k := k) hl hk ?_
  intro b7 b8 b9
  rw [c_law_10]
  simp only [wpS, wpE, wpEs, bindP, getV, List.set]
  refine iSeq_e (.inl rfl) ?_
  have lk := asc_lt (n := p.length) (k := k) hl hk
  refine comp_of lD (fun _ => true) (fun l => .int ((fndAll p l).2.sum : Nat)) trivial (asc p.length k) [] (fun q hq => ⟨_, rfl, fun K h => h, fun _ K hK => ?_⟩) (show _ ≤ 16777216 by simp; omega) ?_
  · obtain ⟨q1, q2⟩ := asc_ok k q hq
    simp only [wipe, List.set, getV]
    refine spAll_e (.inl rfl) hp q2 (by omega) (by omega) ?_
    refine (sIx_l rfl ix_1).mpr ?_
    rw [sSum_lD]
    exact hK
  rw [if_neg Bool.false_ne_true, List.nil_append, show (asc p.length k).filter (fun _ => true) = asc p.length k from List.filter_eq_self.mpr fun _ _ => rfl]
  have em : (asc p.length k).map (fun l => D.int ((fndAll p l).2.sum : Nat)) = ((asc p.length k).map fun l => (((fndAll p l).2.sum : Nat) : Int)).map D.int := by
    rw [List.map_map]
    rfl
  rw [em, sList_e]
  refine ⟨show 1 ≤ 16777216 by decide, ?_⟩
  refine ⟨show _ ≤ 16777216 by simp; omega, ?_⟩
  refine ⟨_, ((asc p.length k).map fun l => (((fndAll p l).2.sum : Nat) : Int)) ++ [0], rfl, ?_, by simp, fun m hm hM => ?_⟩
  · rw [List.map_append]
    rfl
  rw [c_law_12]
  simp only [wpS, wpE, wpEs, getV, sList_e]
  refine spMost_e hp (by omega) (by omega) fun v1 hv1 => ?_
  refine ⟨rfl, rfl, ?_⟩
  refine spMost_e hp (by omega) (by omega) fun v2 hv2 => ?_
  refine ⟨show 2 ≤ 16777216 by decide, show 2 ≤ 16777216 by decide, ?_⟩
  rw [← most_max hp hv1 hm hM, ← most_max hp hv2 hm hM]
  refine spSR_p (k := 2) rfl ?_
  simp only [sNot, Bool.not_true, Bool.false_eq_true, if_false]
  rw [c_law_13]
  simp only [wpS, wpE, wpEs, bindP, getV, List.set, sAdd_i]
  refine spMost_e (k := k + 1) hp (by omega) (by omega) fun w hw => ?_
  rw [sSub_i]
  rw [c_law_14]
  simp only [wpS, wpE, wpEs, bindP, getV, List.set]
  refine spRts_e (by omega) ?_
  refine ⟨by omega, by omega, by omega, by omega, show ((p.length : Int) - 0).toNat ≤ 16777216 by omega, ?_⟩
  rw [rgD_nI]
  refine sEq_lD (by have := rts_len (p := p); omega) (by simp; omega) ?_
  have em := most_max hp hv1 hm hM
  subst em
  rw [c_law_16, c_law_15]
  simp only [wpS, wpE, wpEs, bindP, getV, List.set]
  by_cases hr : AllR p
  · have e := rts_all.mpr hr
    rw [e, most_allR hr hv1, most_allR hr hw]
    refine ⟨rfl, rfl, ?_⟩
    exact hN _ ⟨_, _, _, _, _, _, _, _, _, _, _, rfl⟩
  · have e : decide (rtsN p = List.range p.length) = false := by
      cases e : decide (rtsN p = List.range p.length) with
      | false => rfl
      | true => exact absurd (rts_all.mp e) hr
    have ne : ∃ i, i < p.length ∧ par p i ≠ i := Classical.byContradiction fun z => hr fun i hi => Classical.byContradiction fun y => z ⟨i, hi, y⟩
    have g := most_grow hp ne hv1 hw
    rw [e]
    simp only [Bool.false_eq_true, if_false, sNot, Bool.not_false, if_true, sLt_i]
    have : decide ((w : Int) - (v1 : Nat) < 1) = false := decide_eq_false (by omega)
    rw [this]
    exact hN _ ⟨_, _, _, _, _, _, _, _, _, _, _, rfl⟩
theorem ok_law : okFn 14 (Lw c_law) spLaw := by
  rintro ds cs Q X ⟨rfl, hQ⟩
  show wpS (.seq (Lw c_law_1) (.seq (Lw c_law_17) (Lw c_law_18))) [some .scr, none, none, none, none, none, none, none, none, none, none, none, none, none] cs _
  simp only [Lw, wpS]
  rw [c_law_1]
  simp only [wpS, wpE, wpEs, bindP, getV, List.set, spStart_e]
  intro n hn
  have hc : put cs n .drw n = some .drw := put_same
  generalize put cs n .drw = cs at hc
  rw [c_law_17]
  simp only [wpS, wpE, wpEs, getV]
  refine rng1_inv (fun j σ c => c n = some .drw ∧ St n σ) (by omega) (by omega) ⟨hc, _, _, _, _, _, _, _, _, _, _, _, rfl⟩ ?_ ?_
  · rintro j σ c hj ⟨hd, a2, a3, a4, a5, a6, a7, a8, a9, a10, a11, a12, rfl⟩ K' h1 h2 h3 h4 h5
    have := turn (n := n) (cs := c) (K := K') hd (fun σ h => h1 _ _ ⟨hd, h⟩) (σ := [some .scr, some (.ref n), some (.int j), a3, a4, a5, a6, a7, a8, a9, a10, a11, a12, none]) ⟨_, _, _, _, _, _, _, _, _, _, _, rfl⟩
    simp only [Lw, wpS] at this
    exact this
  · rintro σ c ⟨hd, a2, a3, a4, a5, a6, a7, a8, a9, a10, a11, a12, rfl⟩
    rw [c_law_18]
    simp only [wpS, wpE, wpEs, bindP, getV, List.set, sList_e, sTup_e]
    have f0 : FoOk [] := fo_low fun i hi => by simp at hi
    have f1 : FoOk [0, 1] := fo_low fun i hi => by
      have : i = 0 ∨ i = 1 := by simp at hi; omega
      rcases this with e | e <;> subst e <;> decide
    have f2 : FoOk [0, 0] := fo_low fun i hi => by
      have : i = 0 ∨ i = 1 := by simp at hi; omega
      rcases this with e | e <;> subst e <;> decide
    refine ⟨Nat.zero_le _, spMost_e (p := []) (k := 3) f0 (by decide) (by decide) fun v1 h1 => ?_⟩
    refine ⟨show 2 ≤ 16777216 by decide, spMost_e (p := [0, 1]) (k := 20) f1 (by decide) (by decide) fun v2 h2 => ?_⟩
    refine ⟨show 2 ≤ 16777216 by decide, spMost_e (p := [0, 0]) (k := 20) f2 (by decide) (by decide) fun v3 h3 => ?_⟩
    have e1 : v1 = 0 := most_allR (fun i hi => by simp at hi) h1
    have e2 : v2 = 0 := most_allR (fun i hi => by
      have : i = 0 ∨ i = 1 := by simp at hi; omega
      rcases this with e | e <;> subst e <;> decide) h2
    have e3 : v3 = 20 := by
      rcases h3 with ⟨a, _⟩ | ⟨_, xs, x1, x2, x3⟩
      · exact absurd (a 1 (by decide)) (by decide)
      · rw [x3]
        have : dm [0, 0] (mores [0, 0] (fun _ => false) xs) = 0 := by
          unfold dm
          rw [List.countP_eq_zero]
          intro j hj
          have hj := List.mem_range.mp hj
          have : j = 0 ∨ j = 1 := by simp at hj; omega
          have : deep [0, 0] j = false := by rcases this with e | e <;> subst e <;> decide
          simp [this]
        rw [this]
    subst e1 e2 e3
    refine ⟨show 3 ≤ 16777216 by decide, show 3 ≤ 16777216 by decide, ?_⟩
    refine spSR_p (k := 2) rfl ?_
    exact hQ _
end K41

namespace K41
open PySem PySem.Spec PyProof.Rows L2 G
def d_roots_of : He.DefD := ⟨("roots_of", none), "roots_of", "roots_of", defArgs s_roots_of, defBody s_roots_of, defScope s_roots_of, [], []⟩
def d_check_times : He.DefD := ⟨("check_times", none), "check_times", "check_times", defArgs s_check_times, defBody s_check_times, defScope s_check_times, [], []⟩
def d_most_total : He.DefD := ⟨("most_total", none), "most_total", "most_total", defArgs s_most_total, defBody s_most_total, defScope s_most_total, [], []⟩
def d_fresh_nodes : He.DefD := ⟨("fresh_nodes", none), "fresh_nodes", "fresh_nodes", defArgs s_fresh_nodes, defBody s_fresh_nodes, defScope s_fresh_nodes, [], []⟩
def d__law_start : He.DefD := ⟨("_law_start", none), "_law_start", "_law_start", defArgs s__law_start, defBody s__law_start, defScope s__law_start, [], []⟩
def d__law_take : He.DefD := ⟨("_law_take", none), "_law_take", "_law_take", defArgs s__law_take, defBody s__law_take, defScope s__law_take, [], []⟩
def d__law_of : He.DefD := ⟨("_law_of", none), "_law_of", "_law_of", defArgs s__law_of, defBody s__law_of, defScope s__law_of, [], []⟩
def d__law_shuffled : He.DefD := ⟨("_law_shuffled", none), "_law_shuffled", "_law_shuffled", defArgs s__law_shuffled, defBody s__law_shuffled, defScope s__law_shuffled, [], []⟩
def d__law_same : He.DefD := ⟨("_law_same", none), "_law_same", "_law_same", defArgs s__law_same, defBody s__law_same, defScope s__law_same, [], []⟩
def d__law_size : He.DefD := ⟨("_law_size", none), "_law_size", "_law_size", defArgs s__law_size, defBody s__law_size, defScope s__law_size, [], []⟩
def d__law_path : He.DefD := ⟨("_law_path", none), "_law_path", "_law_path", defArgs s__law_path, defBody s__law_path, defScope s__law_path, [], []⟩
def d__law_root : He.DefD := ⟨("_law_root", none), "_law_root", "_law_root", defArgs s__law_root, defBody s__law_root, defScope s__law_root, [], []⟩
def d__law_renamed : He.DefD := ⟨("_law_renamed", none), "_law_renamed", "_law_renamed", defArgs s__law_renamed, defBody s__law_renamed, defScope s__law_renamed, [], []⟩
def d__law_forest : He.DefD := ⟨("_law_forest", none), "_law_forest", "_law_forest", defArgs s__law_forest, defBody s__law_forest, defScope s__law_forest, [], []⟩
def d__law_some_forest : He.DefD := ⟨("_law_some_forest", none), "_law_some_forest", "_law_some_forest", defArgs s__law_some_forest, defBody s__law_some_forest, defScope s__law_some_forest, [], []⟩
def d__law_find : He.DefD := ⟨("_law_find", none), "_law_find", "_law_find", defArgs s__law_find, defBody s__law_find, defScope s__law_find, [], []⟩
def d__law_found : He.DefD := ⟨("_law_found", none), "_law_found", "_law_found", defArgs s__law_found, defBody s__law_found, defScope s__law_found, [], []⟩
def d_law : He.DefD := ⟨("law", none), "law", "law", defArgs s_law, defBody s_law, defScope s_law, [], []⟩
def fn : List He.DefD := [d_roots_of, d_check_times, d_most_total, d_fresh_nodes, d__law_start, d__law_take, d__law_of, d__law_shuffled, d__law_same, d__law_size, d__law_path, d__law_root, d__law_renamed, d__law_forest, d__law_some_forest, d__law_find, d__law_found, d_law]
def tf : List He.Defn := [(("roots_of" : Str), (none : Option Str)), (("check_times" : Str), (none : Option Str)), (("most_total" : Str), (none : Option Str)), (("fresh_nodes" : Str), (none : Option Str)), (("_law_start" : Str), (none : Option Str)), (("_law_take" : Str), (none : Option Str)), (("_law_of" : Str), (none : Option Str)), (("_law_shuffled" : Str), (none : Option Str)), (("_law_same" : Str), (none : Option Str)), (("_law_size" : Str), (none : Option Str)), (("_law_path" : Str), (none : Option Str)), (("_law_root" : Str), (none : Option Str)), (("_law_renamed" : Str), (none : Option Str)), (("_law_forest" : Str), (none : Option Str)), (("_law_some_forest" : Str), (none : Option Str)), (("_law_find" : Str), (none : Option Str)), (("_law_found" : Str), (none : Option Str)), (("law" : Str), (none : Option Str)), (("BadCount" : Str), some ("__init__" : Str))]
def fa : List He.Fa := [.glo "roots_of", .glo "check_times", .glo "most_total", .glo "fresh_nodes", .glo "_law_start", .glo "_law_take", .glo "_law_of", .glo "_law_shuffled", .glo "_law_same", .glo "_law_size", .glo "_law_path", .glo "_law_root", .glo "_law_renamed", .glo "_law_forest", .glo "_law_some_forest", .glo "_law_find", .glo "_law_found", .glo "law", .free "all", .free "bool", .free "enumerate", .free "int", .free "isinstance", .free "len", .free "list", .free "max", .free "min", .free "range", .free "str", .free "sum", .free "tuple", .free "zip", .int "MAX_TIMES" 20]
def ex (K : PySem.W.Frag) : Bool := tabsB tf K && (tabsU K)
abbrev R : PySem.W.OpenRow := PySem.W.OpenLaw.row PySem.Challenge.rw_findforests_k41_whole_greatest_total_cos
abbrev hk : PySem.W.Hook := He.hookX 5 fa fn [] tf ex
def ob (s : PySem.W.SharedT) : He.AlX := He.obsX 5 fa fn [] tf ex (HandSHeadRun.getT s)
theorem ob_eq (s : PySem.W.SharedT) : ob s = hk.obs s.abs := He.obsX_eq (HandSHeadRun.getT_eq s)
theorem run (w : World) : HandSHeadRun.RunEq R (PySem.W.view R.prog [24]) hk ob 4000 ("__name__" :: "ForestError" :: "BadCount" :: "roots_of" :: "MAX_TIMES" :: "check_times" :: "most_total" :: "fresh_nodes" :: "_law_start" :: "_law_take" :: "_law_of" :: "_law_shuffled" :: "_law_same" :: "_law_size" :: "_law_path" :: "_law_root" :: "_law_renamed" :: "_law_forest" :: "_law_some_forest" :: "_law_find" :: "_law_found" :: []) w := by
  intro os
  kernel_rfl
theorem facts {P : Program} {w : World} {K : PySem.W.Frag} {h : Heap} {mg : Str → Option Value} {f : Addr} (X : K.In h) (G : h.Ns mainGlobals mg) (hfa : mg ("law" : Str) = some (.ref f)) (cx : He.SaysX fa fn [] tf ex w h K) :
    ∃ fd : FuncData, (∀ (s : Shared) (u : Value), BindsTo s fd ⟨[u], []⟩ [("_law_script", u)]) ∧ ∀ base : Heap, K.In base → base.Ns mainGlobals mg → (∀ p ∈ tf.map (He.cT K), LamX.TabB base mg p.1 p.2) → FnOk P w K mg base (L2N.CX P w) 6 f fd ["_law_script"] (lift K mg spLaw) := by
  have c := cx.t.d
  have e0 := (Bool.and_eq_true_iff.mp cx.more).2
  have eU := e0
  obtain ⟨fd_roots_of, D_roots_of⟩ := c.def_ 0 (d := d_roots_of) rfl
  have m_roots_of : mg "roots_of" = _ := He.glo_ok X G (c.fact 0 (f := .glo "roots_of") rfl)
  obtain ⟨fd_check_times, D_check_times⟩ := c.def_ 1 (d := d_check_times) rfl
  have m_check_times : mg "check_times" = _ := He.glo_ok X G (c.fact 1 (f := .glo "check_times") rfl)
  obtain ⟨fd_most_total, D_most_total⟩ := c.def_ 2 (d := d_most_total) rfl
  have m_most_total : mg "most_total" = _ := He.glo_ok X G (c.fact 2 (f := .glo "most_total") rfl)
  obtain ⟨fd_fresh_nodes, D_fresh_nodes⟩ := c.def_ 3 (d := d_fresh_nodes) rfl
  have m_fresh_nodes : mg "fresh_nodes" = _ := He.glo_ok X G (c.fact 3 (f := .glo "fresh_nodes") rfl)
  obtain ⟨fd__law_start, D__law_start⟩ := c.def_ 4 (d := d__law_start) rfl
  have m__law_start : mg "_law_start" = _ := He.glo_ok X G (c.fact 4 (f := .glo "_law_start") rfl)
  obtain ⟨fd__law_take, D__law_take⟩ := c.def_ 5 (d := d__law_take) rfl
  have m__law_take : mg "_law_take" = _ := He.glo_ok X G (c.fact 5 (f := .glo "_law_take") rfl)
  obtain ⟨fd__law_of, D__law_of⟩ := c.def_ 6 (d := d__law_of) rfl
  have m__law_of : mg "_law_of" = _ := He.glo_ok X G (c.fact 6 (f := .glo "_law_of") rfl)
  obtain ⟨fd__law_shuffled, D__law_shuffled⟩ := c.def_ 7 (d := d__law_shuffled) rfl
  have m__law_shuffled : mg "_law_shuffled" = _ := He.glo_ok X G (c.fact 7 (f := .glo "_law_shuffled") rfl)
  obtain ⟨fd__law_same, D__law_same⟩ := c.def_ 8 (d := d__law_same) rfl
  have m__law_same : mg "_law_same" = _ := He.glo_ok X G (c.fact 8 (f := .glo "_law_same") rfl)
  obtain ⟨fd__law_size, D__law_size⟩ := c.def_ 9 (d := d__law_size) rfl
  have m__law_size : mg "_law_size" = _ := He.glo_ok X G (c.fact 9 (f := .glo "_law_size") rfl)
  obtain ⟨fd__law_path, D__law_path⟩ := c.def_ 10 (d := d__law_path) rfl
  have m__law_path : mg "_law_path" = _ := He.glo_ok X G (c.fact 10 (f := .glo "_law_path") rfl)
  obtain ⟨fd__law_root, D__law_root⟩ := c.def_ 11 (d := d__law_root) rfl
  have m__law_root : mg "_law_root" = _ := He.glo_ok X G (c.fact 11 (f := .glo "_law_root") rfl)
  obtain ⟨fd__law_renamed, D__law_renamed⟩ := c.def_ 12 (d := d__law_renamed) rfl
  have m__law_renamed : mg "_law_renamed" = _ := He.glo_ok X G (c.fact 12 (f := .glo "_law_renamed") rfl)
  obtain ⟨fd__law_forest, D__law_forest⟩ := c.def_ 13 (d := d__law_forest) rfl
  have m__law_forest : mg "_law_forest" = _ := He.glo_ok X G (c.fact 13 (f := .glo "_law_forest") rfl)
  obtain ⟨fd__law_some_forest, D__law_some_forest⟩ := c.def_ 14 (d := d__law_some_forest) rfl
  have m__law_some_forest : mg "_law_some_forest" = _ := He.glo_ok X G (c.fact 14 (f := .glo "_law_some_forest") rfl)
  obtain ⟨fd__law_find, D__law_find⟩ := c.def_ 15 (d := d__law_find) rfl
  have m__law_find : mg "_law_find" = _ := He.glo_ok X G (c.fact 15 (f := .glo "_law_find") rfl)
  obtain ⟨fd__law_found, D__law_found⟩ := c.def_ 16 (d := d__law_found) rfl
  have m__law_found : mg "_law_found" = _ := He.glo_ok X G (c.fact 16 (f := .glo "_law_found") rfl)
  obtain ⟨fd_law, D_law⟩ := c.def_ 17 (d := d_law) rfl
  have m_law : mg "law" = _ := He.glo_ok X G (c.fact 17 (f := .glo "law") rfl)
  have n_all : mg "all" = none := He.free_ok X G (c.fact 18 (f := .free "all") rfl)
  have n_bool : mg "bool" = none := He.free_ok X G (c.fact 19 (f := .free "bool") rfl)
  have n_enumerate : mg "enumerate" = none := He.free_ok X G (c.fact 20 (f := .free "enumerate") rfl)
  have n_int : mg "int" = none := He.free_ok X G (c.fact 21 (f := .free "int") rfl)
  have n_isinstance : mg "isinstance" = none := He.free_ok X G (c.fact 22 (f := .free "isinstance") rfl)
  have n_len : mg "len" = none := He.free_ok X G (c.fact 23 (f := .free "len") rfl)
  have n_list : mg "list" = none := He.free_ok X G (c.fact 24 (f := .free "list") rfl)
  have n_max : mg "max" = none := He.free_ok X G (c.fact 25 (f := .free "max") rfl)
  have n_min : mg "min" = none := He.free_ok X G (c.fact 26 (f := .free "min") rfl)
  have n_range : mg "range" = none := He.free_ok X G (c.fact 27 (f := .free "range") rfl)
  have n_str : mg "str" = none := He.free_ok X G (c.fact 28 (f := .free "str") rfl)
  have n_sum : mg "sum" = none := He.free_ok X G (c.fact 29 (f := .free "sum") rfl)
  have n_tuple : mg "tuple" = none := He.free_ok X G (c.fact 30 (f := .free "tuple") rfl)
  have n_zip : mg "zip" = none := He.free_ok X G (c.fact 31 (f := .free "zip") rfl)
  have m_MAX_TIMES := He.int_ok X G (c.fact 32 (f := .int "MAX_TIMES" 20) rfl)
  have e := hfa.symm.trans m_law
  cases e
  have b := FunD.bindsA (ps := ["_law_script"]) D_law (fun _ _ _ _ _ _ us hl => match us, hl with | [_], _ => rfl)
  have B_roots_of : L2.Binds K fd_roots_of ["forest"] [] := FunD.bindsN (ps := ["forest"]) D_roots_of (fun _ _ _ _ _ _ us hl => match us, hl with | [_], _ => rfl)
  have B_check_times : L2.Binds K fd_check_times ["times"] [] := FunD.bindsN (ps := ["times"]) D_check_times (fun _ _ _ _ _ _ us hl => match us, hl with | [_], _ => rfl)
  have B_most_total : L2.Binds K fd_most_total ["forest", "times"] [] := FunD.bindsN (ps := ["forest", "times"]) D_most_total (fun _ _ _ _ _ _ us hl => match us, hl with | [_, _], _ => rfl)
  have B_fresh_nodes : L2.Binds K fd_fresh_nodes ["forest", "node", "marked"] [] := FunD.bindsN (ps := ["forest", "node", "marked"]) D_fresh_nodes (fun _ _ _ _ _ _ us hl => match us, hl with | [_, _, _], _ => rfl)
  have B__law_start : L2.Binds K fd__law_start ["_law_script"] [] := FunD.bindsN (ps := ["_law_script"]) D__law_start (fun _ _ _ _ _ _ us hl => match us, hl with | [_], _ => rfl)
  have B__law_take : L2.Binds K fd__law_take ["_law_draw", "_law_many"] [] := FunD.bindsN (ps := ["_law_draw", "_law_many"]) D__law_take (fun _ _ _ _ _ _ us hl => match us, hl with | [_, _], _ => rfl)
  have B__law_of : L2.Binds K fd__law_of ["_law_draw", "_law_some"] [] := FunD.bindsN (ps := ["_law_draw", "_law_some"]) D__law_of (fun _ _ _ _ _ _ us hl => match us, hl with | [_, _], _ => rfl)
  have B__law_shuffled : L2.Binds K fd__law_shuffled ["_law_draw", "_law_some"] [] := FunD.bindsN (ps := ["_law_draw", "_law_some"]) D__law_shuffled (fun _ _ _ _ _ _ us hl => match us, hl with | [_, _], _ => rfl)
  have B__law_same : L2.Binds K fd__law_same ["_law_found_here", "_law_due"] [] := FunD.bindsN (ps := ["_law_found_here", "_law_due"]) D__law_same (fun _ _ _ _ _ _ us hl => match us, hl with | [_, _], _ => rfl)
  have B__law_size : L2.Binds K fd__law_size ["_law_draw", "_law_most"] [] := FunD.bindsN (ps := ["_law_draw", "_law_most"]) D__law_size (fun _ _ _ _ _ _ us hl => match us, hl with | [_, _], _ => rfl)
  have B__law_path : L2.Binds K fd__law_path ["_law_forest_in", "_law_node"] [] := FunD.bindsN (ps := ["_law_forest_in", "_law_node"]) D__law_path (fun _ _ _ _ _ _ us hl => match us, hl with | [_, _], _ => rfl)
  have B__law_root : L2.Binds K fd__law_root ["_law_forest_in", "_law_node"] [] := FunD.bindsN (ps := ["_law_forest_in", "_law_node"]) D__law_root (fun _ _ _ _ _ _ us hl => match us, hl with | [_, _], _ => rfl)
  have B__law_renamed : L2.Binds K fd__law_renamed ["_law_draw", "_law_parents"] [] := FunD.bindsN (ps := ["_law_draw", "_law_parents"]) D__law_renamed (fun _ _ _ _ _ _ us hl => match us, hl with | [_, _], _ => rfl)
  have B__law_forest : L2.Binds K fd__law_forest ["_law_draw", "_law_size_here", "_law_many"] [] := FunD.bindsN (ps := ["_law_draw", "_law_size_here", "_law_many"]) D__law_forest (fun _ _ _ _ _ _ us hl => match us, hl with | [_, _, _], _ => rfl)
  have B__law_some_forest : L2.Binds K fd__law_some_forest ["_law_draw", "_law_most"] [] := FunD.bindsN (ps := ["_law_draw", "_law_most"]) D__law_some_forest (fun _ _ _ _ _ _ us hl => match us, hl with | [_, _], _ => rfl)
  have B__law_find : L2.Binds K fd__law_find ["_law_forest_in", "_law_node"] [] := FunD.bindsN (ps := ["_law_forest_in", "_law_node"]) D__law_find (fun _ _ _ _ _ _ us hl => match us, hl with | [_, _], _ => rfl)
  have B__law_found : L2.Binds K fd__law_found ["_law_forest_in", "_law_nodes"] [] := FunD.bindsN (ps := ["_law_forest_in", "_law_nodes"]) D__law_found (fun _ _ _ _ _ _ us hl => match us, hl with | [_, _], _ => rfl)
  have B_law : L2.Binds K fd_law ["_law_script"] [] := FunD.bindsN (ps := ["_law_script"]) D_law (fun _ _ _ _ _ _ us hl => match us, hl with | [_], _ => rfl)
  refine ⟨fd_law, fun s u => b s [u] rfl, fun base _ _ hT => ?_⟩
  have O_roots_of : FnOk P w K mg base (L2N.CX P w) 1 _ fd_roots_of ["forest"] (lift K mg spRts) := fnOk_of (k := 0) D_roots_of sc_roots_of (fun ds cs Q PX h => by obtain ⟨_, e, _⟩ := h; rw [e]; rfl) (fun cdv A outer s H E C => js_roots_of n_enumerate C) ok_rts
  have F_roots_of := fn_mkB D_roots_of m_roots_of O_roots_of B_roots_of
  have O_check_times : FnOk P w K mg base (L2N.CX P w) 1 _ fd_check_times ["times"] (lift K mg spTm0) := fnOk_of (k := 0) D_check_times sc_check_times (fun ds cs Q PX h => by obtain ⟨_, e, _⟩ := h; rw [e]; rfl) (fun cdv A outer s H E C => js_check_times m_MAX_TIMES C) ok_tm0
  have F_check_times := fn_mkB D_check_times m_check_times O_check_times B_check_times
  have O_fresh_nodes : FnOk P w K mg base (L2N.CX P w) 1 _ fd_fresh_nodes ["forest", "node", "marked"] (lift K mg spFr) := fnOk_of (k := 0) D_fresh_nodes sc_fresh_nodes (fun ds cs Q PX h => by obtain ⟨_, _, _, e, _⟩ := h; rw [e]; rfl) (fun cdv A outer s H E C => js_fresh_nodes C) ok_fr
  have F_fresh_nodes := fn_mkB D_fresh_nodes m_fresh_nodes O_fresh_nodes B_fresh_nodes
  have O_most_total : FnOk P w K mg base (L2N.CX P w) 2 _ fd_most_total ["forest", "times"] (lift K mg spMost) := fnOk_of (k := 1) D_most_total sc_most_total (fun ds cs Q PX h => by obtain ⟨_, _, e, _⟩ := h; rw [e]; rfl) (fun cdv A outer s H E C => js_most_total n_all n_enumerate n_len n_max n_range F_check_times (by decide) F_fresh_nodes (by decide) C) ok_most
  have F_most_total := fn_mkB D_most_total m_most_total O_most_total B_most_total
  have K_most_total_0_times_forest := fnk_mk (n := 0) (ks := ["times", "forest"]) (ix := [1, 0]) D_most_total m_most_total O_most_total (fun _ _ _ _ _ _ us ws h1 h2 => match us, h1, ws, h2 with | [], _, [_, _], _ => rfl)
  have O__law_start : FnOk P w K mg base (L2N.CX P w) 1 _ fd__law_start ["_law_script"] (lift K mg spStart) := seal_start (fnOk_of (k := 0) D__law_start sc__law_start (fun ds cs Q PX ⟨e, _⟩ => by rw [e]; rfl) (fun cdv A outer s H E C => js__law_start n_len n_list C) ok_start)
  have F__law_start := fn_mkB D__law_start m__law_start O__law_start B__law_start
  have O__law_take : FnOk P w K mg base (L2N.CX P w) 1 _ fd__law_take ["_law_draw", "_law_many"] (lift K mg spTake) := seal_take (fnOk_of (k := 0) D__law_take sc__law_take (fun ds cs Q PX ⟨_, _, _, _, _, _, e, _⟩ => by rw [e]; rfl) (fun cdv A outer s H E C => js__law_take n_len C) ok_take)
  have F__law_take := fn_mkB D__law_take m__law_take O__law_take B__law_take
  have O__law_of : FnOk P w K mg base (L2N.CX P w) 2 _ fd__law_of ["_law_draw", "_law_some"] (lift K mg spOf) := fnOk_of (k := 1) D__law_of sc__law_of (fun ds cs Q PX ⟨_, _, _, e, _⟩ => by rw [e]; rfl) (fun cdv A outer s H E C => js__law_of n_len F__law_take (by decide) C) ok_of
  have F__law_of := fn_mkB D__law_of m__law_of O__law_of B__law_of
  have O__law_shuffled : FnOk P w K mg base (L2N.CX P w) 2 _ fd__law_shuffled ["_law_draw", "_law_some"] (lift K mg spShuf) := fnOk_of (k := 1) D__law_shuffled sc__law_shuffled (fun ds cs Q PX ⟨_, _, _, e, _⟩ => by rw [e]; rfl) (fun cdv A outer s H E C => js__law_shuffled n_len F__law_take (by decide) C) ok_shuf
  have F__law_shuffled := fn_mkB D__law_shuffled m__law_shuffled O__law_shuffled B__law_shuffled
  have S_same : ∀ i : Nat, i ≤ 64 → Fn P w K mg base "_law_same" i 2 (spSR i) := by
    intro i
    induction i with
    | zero => exact fun _ => fn_mkB (ps := ["_law_found_here", "_law_due"]) D__law_same m__law_same (sp := spSR 0) fnOk_zeroR B__law_same
    | succ i ih => exact fun hi => fn_mkB D__law_same m__law_same (fnOk_of (k := i) D__law_same sc__law_same (fun ds cs Q PX ⟨_, _, _, e, _⟩ => by rw [e]; rfl) (fun cdv A outer s H E C => js__law_same n_all n_bool n_int n_isinstance n_len n_list n_str n_tuple n_zip (ih (by omega)) (Nat.le_refl _) C) (ok_sameR i (by omega))) B__law_same
  have F__law_same := S_same 3 (by decide)
  have O__law_size : FnOk P w K mg base (L2N.CX P w) 3 _ fd__law_size ["_law_draw", "_law_most"] (lift K mg spSize) := fnOk_of (k := 2) D__law_size sc__law_size (fun ds cs Q PX ⟨_, _, e, _⟩ => by rw [e]; rfl) (fun cdv A outer s H E C => js__law_size n_min F__law_of (by decide) F__law_take (by decide) C) ok_size
  have F__law_size := fn_mkB D__law_size m__law_size O__law_size B__law_size
  have O__law_path : FnOk P w K mg base (L2N.CX P w) 1 _ fd__law_path ["_law_forest_in", "_law_node"] (lift K mg spPath) := fnOk_of (k := 0) D__law_path sc__law_path (fun ds cs Q PX ⟨_, _, e, _⟩ => by rw [e]; rfl) (fun cdv A outer s H E C => js__law_path n_len n_range C) ok_l_path
  have F__law_path := fn_mkB D__law_path m__law_path O__law_path B__law_path
  have O__law_root : FnOk P w K mg base (L2N.CX P w) 2 _ fd__law_root ["_law_forest_in", "_law_node"] (lift K mg spRoot) := fnOk_of (k := 1) D__law_root sc__law_root (fun ds cs Q PX ⟨_, _, e, _⟩ => by rw [e]; rfl) (fun cdv A outer s H E C => js__law_root F__law_path (by decide) C) ok_l_root
  have F__law_root := fn_mkB D__law_root m__law_root O__law_root B__law_root
  have O__law_renamed : FnOk P w K mg base (L2N.CX P w) 3 _ fd__law_renamed ["_law_draw", "_law_parents"] (lift K mg spRen) := fnOk_ofL (k := 2) D__law_renamed sc__law_renamed (fun ds cs Q PX ⟨_, _, _, e, _⟩ => by rw [e]; rfl) (fun cdv A outer s H E C => js__law_renamed n_len n_list n_range n_tuple F__law_shuffled (by decide) C) ok_ren
  have F__law_renamed := fn_mkB D__law_renamed m__law_renamed O__law_renamed B__law_renamed
  have O__law_forest : FnOk P w K mg base (L2N.CX P w) 4 _ fd__law_forest ["_law_draw", "_law_size_here", "_law_many"] (lift K mg spForest) := fnOk_ofL (k := 3) D__law_forest sc__law_forest (fun ds cs Q PX ⟨_, _, _, e, _⟩ => by rw [e]; rfl) (fun cdv A outer s H E C => js__law_forest n_max n_range F__law_renamed (by decide) F__law_take (by decide) C) ok_forest
  have F__law_forest := fn_mkB D__law_forest m__law_forest O__law_forest B__law_forest
  have O__law_some_forest : FnOk P w K mg base (L2N.CX P w) 5 _ fd__law_some_forest ["_law_draw", "_law_most"] (lift K mg spSome) := fnOk_of (k := 4) D__law_some_forest sc__law_some_forest (fun ds cs Q PX ⟨_, _, e, _⟩ => by rw [e]; rfl) (fun cdv A outer s H E C => js__law_some_forest F__law_forest (by decide) F__law_size (by decide) F__law_take (by decide) C) ok_some
  have F__law_some_forest := fn_mkB D__law_some_forest m__law_some_forest O__law_some_forest B__law_some_forest
  have O__law_find : FnOk P w K mg base (L2N.CX P w) 3 _ fd__law_find ["_law_forest_in", "_law_node"] (lift K mg spFnd) := fnOk_ofL (k := 2) D__law_find sc__law_find (fun ds cs Q PX ⟨_, _, e, _⟩ => by rw [e]; rfl) (fun cdv A outer s H E C => js__law_find n_len n_list n_range n_tuple F__law_root (by decide) C) ok_l_find
  have F__law_find := fn_mkB D__law_find m__law_find O__law_find B__law_find
  have O__law_found : FnOk P w K mg base (L2N.CX P w) 4 _ fd__law_found ["_law_forest_in", "_law_nodes"] (lift K mg spAll) := fnOk_of (k := 3) D__law_found sc__law_found (fun ds cs Q PX ⟨_, _, _, e, _⟩ => by rw [e]; rfl) (fun cdv A outer s H E C => js__law_found F__law_find (by decide) C) ok_l_found
  have F__law_found := fn_mkB D__law_found m__law_found O__law_found B__law_found
  exact fnOk_of (k := 5) D_law sc_law (fun ds cs Q PX ⟨e, _⟩ => by rw [e]; rfl) (fun cdv A outer s H E C => js_law n_len n_list n_max n_range n_sum F__law_found (by decide) F__law_same (by decide) F__law_some_forest (by decide) F__law_start (by decide) F__law_take (by decide) F_most_total (by decide) F_roots_of (by decide) K_most_total_0_times_forest C) ok_law
end K41
open PySem PySem.W PySem.Calls PyProof.Rows
theorem PySem.Challenge.cw_findforests_k41_whole_greatest_total_cos_holds : PySem.Challenge.rw_findforests_k41_whole_greatest_total_cos.Holds := by
  w_on; o_law
  refine HandSHeadRun.head_any (r := OpenLaw.row PySem.Challenge.rw_findforests_k41_whole_greatest_total_cos) (q := view (OpenLaw.row PySem.Challenge.rw_findforests_k41_whole_greatest_total_cos).prog [24]) (H := K41.hk) (ob := K41.ob) (M := 4000) (loose := ("__name__" :: "ForestError" :: "BadCount" :: "roots_of" :: "MAX_TIMES" :: "check_times" :: "most_total" :: "fresh_nodes" :: "_law_start" :: "_law_take" :: "_law_of" :: "_law_shuffled" :: "_law_same" :: "_law_size" :: "_law_path" :: "_law_root" :: "_law_renamed" :: "_law_forest" :: "_law_some_forest" :: "_law_find" :: "_law_found" :: [])) (d := HandSHeadRun.topDef (OpenLaw.row PySem.Challenge.rw_findforests_k41_whole_greatest_total_cos).prog 24) (kwd := []) K41.ob_eq
    (by kernel_rfl) (fun s => by kernel_rfl) K41.run (by kernel_rfl) (by kernel_rfl) (by kernel_rfl) (by rfl) (by first | assumption | decide +kernel) (by decide +kernel) ⟨rfl, rfl, rfl, rfl, rfl, by decide +kernel⟩ ?hw ?hc
  case hw => w_witness2
  case hc =>
    refine G.walkG (l := PySem.Challenge.rw_findforests_k41_whole_greatest_total_cos) (k := 6) (x := "_law_script") (n := 5) (fa := K41.fa) (fn := K41.fn) (ts := []) (tf := K41.tf) (ex := K41.ex) rfl (by kernel_rfl) ⟨rfl, by decide, by decide⟩ (fun K h => (Bool.and_eq_true_iff.mp h).1) ?F
    intro w mg fa h K KX c Y hmg0
    have hmg : mg ("law" : PySem.Str) = some (.ref fa) := by
      have e : (HandSHeadRun.topDef (OpenLaw.row PySem.Challenge.rw_findforests_k41_whole_greatest_total_cos).prog 24).name = ("law" : PySem.Str) := by kernel_rfl
      rw [← e]
      exact hmg0
    exact K41.facts (P := (PySem.Challenge.rw_findforests_k41_whole_greatest_total_cos).prog) (w := w) KX Y hmg c
