import PyProof.Rows.All
import PySem.Sem
import HandS.ForMost
import HandS.ForExc
import HandS.Evl
import HandS.Lambda
import HandS.HeadHook4
import HandS.Strs
import HandS.IsInst
import HandS.More
import HandS.Wide
import HandS.Style
import HandS.Flow
import HandS.TupMul
import HandS.Conv
import HandS.CallSlots
import HandS.Iter
import HandS.ExcOwn
import HandS.Zip
import HandS.Defaults
import HandS.WordsExc
import HandS.ExcCtx
import KE.KStateDown
import HandS.Ends
import HandS.Words
import HandS.Head0
import HandS.Head1
import HandS.Head2
import HandS.HeadEnd
import HandS.EndBits
import HandS.HeadHook1
import HandS.HeadHook2
import HandS.HeadWalk
import HandS.SortInts
import KE.GoesMore
import HandS.SetFor
import KE.KUnpackStar
import HandS.ExcInit
import HandS.ExcField
import HandS.HotCalls
import HandS.TryMany
import KE.KExcInit
import PyProof.ExcBaseAll.LookupError
import PyProof.ExcBaseAll.IndexError
import PyProof.ExcBaseAll.ValueError
import KE.KTryMore
import PyProof.Rows.TupIter
import HandS.EndTab
import PyProof.ReprRoads
import PyProof.ReprLen
import PyProof.ReprText
import HandS.TupAny
import HandS.Dict
import HandS.DictComp
import HandS.Finally
import HandS.Text
import HandS.Rev
import HandS.DictTup
import KE.GoesZip
import HandS.Sort
import HandS.SortKw
import KE.DataMinMax
import HandS.Deep
import PySem.Challenge.RW_findforests_k11_histories_checked
set_option Elab.async false
set_option linter.all false
set_option maxRecDepth 100000
set_option maxHeartbeats 4000000
/-! GCore: a small core language of expressions and statements over trees and cells, and what must hold ahead of it (weakest preconditions). -/
namespace G
open PySem (Str Arguments Expr Scope)

/-- a lambda's text: its def's qualified name with <lambda>, its parameters' whole numbers as defaults -/
structure LamT where
  q : Str
  params : Arguments
  body : Expr
  scope : Scope
  dfl : List Int
  deriving Inhabited
/-- values: trees; a cell by its number; a lambda by its number, its text, its cells -/
inductive D where
  | non
  | bl (b : Bool)
  | int (i : Int)
  | str (s : Str)
  | tup (xs : List D)
  | lst (xs : List D)
  | dic (ks vs : List D)
  | ref (n : Nat)
  | scr
  | clo (j : Nat) (t : LamT) (cl : List (Str × Nat))
  deriving Inhabited

/-- what a cell holds -/
inductive Ob where
  | lst (xs : List D)
  | dic (ks vs : List D)
  | ins (C : Nat) (fs : List (Str × D))
  | drw
  | set (w : PySem.World) (m : Nat) (S : Int → Bool) (n : Nat)
  | dit (l : List (List (Sum Int Str) × D))
abbrev Cs := Nat → Option Ob
def put (cs : Cs) (n : Nat) (o : Ob) : Cs := fun m => if m = n then some o else cs m
def del (cs : Cs) (n : Nat) : Cs := fun m => if m = n then none else cs m
/-- keys as values -/
def kD : Sum Int Str → D
  | .inl i => .int i
  | .inr x => .str x
abbrev DL := List (Sum Int Str × D)
def dicO (l : DL) : Ob := .dic (l.map fun p => kD p.1) (l.map (·.2))
def putA (l : DL) (k : Sum Int Str) (d : D) : DL := if (l.any fun p => decide (p.1 = k)) = true then l.map (fun p => if p.1 = k then (p.1, d) else p) else l ++ [(k, d)]
/-- an error: the name of its class, its fields -/
structure Er where
  tag : Str
  fs : List (Str × D)
abbrev KD := D → Cs → Prop
abbrev KX := Er → Cs → Prop
abbrev Spec := List D → Cs → KD → KX → Prop
abbrev ISpec := List D → Cs → (List D → (Cs → Prop) → Prop) → Prop
abbrev Sl := List (Option D)

/-- targets -/
inductive Pat where
  | nm (i : Nat)
  | nil
  | cons (p q : Pat)
  | tup (p : Pat)
@[simp] def bindP : Pat → List D → Sl → Option Sl
  | .nm i, [d], σ => some (σ.set i (some d))
  | .nil, [], σ => some σ
  | .cons p q, d :: ds, σ => match bindP p [d] σ with
    | some σ' => bindP q ds σ'
    | none => none
  | .tup p, [.tup ds], σ => bindP p ds σ
  | _, _, _ => none

/-- an error with one field, without -/
def er (tag f : Str) (d : D) : Er := ⟨tag, [(f, d), ("tag", .str tag)]⟩
def er0 (tag : Str) : Er := ⟨tag, [("tag", .str tag)]⟩
/-- the errors' fields -/
def fname (t : Str) : Option Str :=
  if t ∈ (["BadParent", "Cycle", "NotRoot", "SameRoot", "RootsDiffer", "NoWay", "BadWeight", "NoNode"] : List Str) then some "node"
  else if t ∈ (["TooManyNodes", "TooLong", "TooManyForests", "TooManyWatches"] : List Str) then some "limit"
  else if t ∈ (["BadStep", "BadCost", "Contradiction", "ParseError"] : List Str) then some "pos"
  else if t ∈ (["SizesDiffer", "BadSize"] : List Str) then some "size"
  else if t ∈ (["BadName", "NameTaken", "NoForest"] : List Str) then some "name"
  else if t = "BadCommand" then some "word"
  else if t = "BadCount" then some "count"
  else if t = "NoWatch" then some "number"
  else none
/-- what is told of an error -/
def IsEr (x : Er) (d : D) : Prop := (∃ f, fname x.tag = some f ∧ x = er x.tag f d) ∨ (x = er0 "EmptyHistory" ∧ d = .non)
/-- the triple (answer, tag, field), without the answer -/
def outD (k : Bool) (a : D) (t : Str) (d : D) : D := if k = true then .tup [.str t, d] else .tup [a, .str t, d]
def permL {α : Type} (ix : List Nat) (l : List α) : List α := ix.filterMap fun i => l[i]?
mutual
inductive E where
  | v (i : Nat)
  | c (d : D)
  | app (sp : Spec) (as : Es)
  | appk (n m : Nat) (ix : List Nat) (sp : Spec) (as bs : Es)
  | meth (chk : D → Cs → Prop) (sp : Spec) (o : E) (as : Es)
  | ite (c a b : E)
  | and (a b : E)
  | or (a b : E)
  | chain (s1 s2 : Spec) (a b c : E)
  | comp (m : Bool) (own : List Nat) (p : Pat) (it : ISpec) (as : Es) (c e : E)
  | dcomp (own : List Nat) (p : Pat) (it : ISpec) (as : Es) (c ek ev : E)
  | comp2 (m : Bool) (own own1 : List Nat) (p : Pat) (it : ISpec) (as : Es) (p1 : Pat) (it1 : ISpec) (as1 : Es) (e : E)
  | out (k : Bool) (e : E)
  | outv (k : Bool) (cl : List (Str × Nat)) (a : E) (l : Lt)
inductive Es where
  | nil
  | cons (e : E) (es : Es)
inductive Lt where
  | nil
  | cons (t : LamT) (e : E) (r : Lt)
end

inductive S where
  | skip
  | seq (a b : S)
  | asg (p : Pat) (e : E)
  | exp (e : E)
  | ret (e : E)
  | ite (c : E) (a b : S)
  | whl (c : E) (b : S)
  | fr (p : Pat) (it : ISpec) (as : Es) (b : S)
  | brk
  | cont
  | rse (sp : List D → Er) (as : Es)
  | frz (i : Nat)

@[simp] def getV : Sl → Nat → Option D
  | [], _ => none
  | x :: _, 0 => x
  | _ :: r, i + 1 => getV r i
def wipe (σ : Sl) : List Nat → Sl
  | [] => σ
  | i :: r => (wipe σ r).set i none

abbrev lim : Nat := 16777216
/-- the turns of a comprehension -/
def compL (p : Pat) (grd : Cs → Prop) (σ : Sl) (tst elt : Sl → Cs → KD → Prop) (Q : List D → Cs → Prop) : List D → List D → Cs → Prop
  | [], acc, cs => grd cs ∧ Q acc cs
  | x :: xs, acc, cs => grd cs ∧ match bindP p [x] σ with
    | none => False
    | some σ1 => tst σ1 cs fun b cs1 => (b = .bl true ∧ elt σ1 cs1 fun y cs2 => acc.length < lim ∧ compL p grd σ tst elt Q xs (acc ++ [y]) cs2) ∨ (b = .bl false ∧ compL p grd σ tst elt Q xs acc cs1)

/-- a comprehension of two clauses -/
def comp2L (p : Pat) (grd : Cs → Prop) (σ : Sl) (inn : Sl → List D → Cs → (List D → Cs → Prop) → Prop) (Q : List D → Cs → Prop) : List D → List D → Cs → Prop
  | [], acc, cs => grd cs ∧ Q acc cs
  | x :: xs, acc, cs => grd cs ∧ match bindP p [x] σ with
    | none => False
    | some σ1 => inn σ1 acc cs fun acc' cs' => comp2L p grd σ inn Q xs acc' cs'
/-- a dict comprehension: the dict is cell n from the start -/
def compD (n : Nat) (p : Pat) (grd : Cs → Prop) (σ : Sl) (tst ek ev : Sl → Cs → KD → Prop) (Q : Cs → Prop) : List D → Cs → Prop
  | [], cs => grd cs ∧ Q cs
  | x :: xs, cs => grd cs ∧ match bindP p [x] σ with
    | none => False
    | some σ1 => tst σ1 cs fun b cs1 => (b = .bl true ∧ ek σ1 cs1 fun y cs2 => ev σ1 cs2 fun z cs3 => ∃ l k, y = kD k ∧ cs3 n = some (dicO l) ∧ l.length < lim ∧ compD n p grd σ tst ek ev Q xs (put cs3 n (dicO (putA l k z)))) ∨ (b = .bl false ∧ compD n p grd σ tst ek ev Q xs cs1)
mutual
@[simp] def wpE : E → Sl → Cs → KD → KX → Prop
  | .v i, σ, cs, Q, _ => match getV σ i with
    | some d => Q d cs
    | none => False
  | .c d, _, cs, Q, _ => Q d cs
  | .app sp as, σ, cs, Q, X => wpEs as σ cs (fun ds cs' => sp ds cs' Q X) X
  | .appk n m ix sp as bs, σ, cs, Q, X => wpEs as σ cs (fun ds c1 => wpEs bs σ c1 (fun es c2 => ds.length = n ∧ es.length = m ∧ sp (permL ix (ds ++ es)) c2 Q X) X) X
  | .meth chk sp o as, σ, cs, Q, X => wpE o σ cs (fun d c1 => chk d c1 ∧ wpEs as σ c1 (fun ds c2 => sp (d :: ds) c2 Q X) X) X
  | .ite c a b, σ, cs, Q, X => wpE c σ cs (fun d cs' => match d with
    | .bl k => if k = true then wpE a σ cs' Q X else wpE b σ cs' Q X
    | _ => False) X
  | .and a b, σ, cs, Q, X => wpE a σ cs (fun d cs' => match d with
    | .bl k => if k = true then wpE b σ cs' Q X else Q (.bl false) cs'
    | _ => False) X
  | .or a b, σ, cs, Q, X => wpE a σ cs (fun d cs' => match d with
    | .bl k => if k = true then Q (.bl true) cs' else wpE b σ cs' Q X
    | _ => False) X
  | .chain s1 s2 a b c, σ, cs, Q, X => wpE a σ cs (fun x c1 => wpE b σ c1 (fun y c2 => s1 [x, y] c2 (fun d c3 => match d with
    | .bl k => if k = true then wpE c σ c3 (fun z c4 => s2 [y, z] c4 (fun d c5 => match d with
      | .bl k' => Q (.bl k') c5
      | _ => False) X) X else Q (.bl false) c3
    | _ => False) X) X) X
  | .comp m own p it as c e, σ, cs, Q, X => wpEs as σ cs (fun ds c1 => it ds c1 fun items grd =>
      compL p grd (wipe σ own) (fun σ1 c2 K => wpE c σ1 c2 K (fun _ _ => False)) (fun σ1 c2 K => wpE e σ1 c2 K (fun _ _ => False))
        (fun ys c3 => if m = true then ∀ n, c3 n = none → Q (.ref n) (put c3 n (.lst ys)) else Q (.lst ys) c3) items [] c1) X
  | .dcomp own p it as c ek ev, σ, cs, Q, X => wpEs as σ cs (fun ds c1 => it ds c1 fun items grd => ∀ n, c1 n = none →
      compD n p grd (wipe σ own) (fun σ1 c2 K => wpE c σ1 c2 K (fun _ _ => False)) (fun σ1 c2 K => wpE ek σ1 c2 K (fun _ _ => False)) (fun σ1 c2 K => wpE ev σ1 c2 K (fun _ _ => False)) (fun c3 => Q (.ref n) c3) items (put c1 n (dicO []))) X
  | .comp2 m own own1 p it as p1 it1 as1 e, σ, cs, Q, X => wpEs as σ cs (fun ds c1 => it ds c1 fun items grd =>
      comp2L p grd (wipe σ own) (fun σ1 acc c2 K => wpEs as1 σ1 c2 (fun ds1 c3 => it1 ds1 c3 fun items1 grd1 =>
        compL p1 grd1 (wipe σ1 own1) (fun _ c4 K => K (.bl true) c4) (fun σ2 c4 K => wpE e σ2 c4 K (fun _ _ => False)) K items1 acc c3) (fun _ _ => False))
        (fun ys c3 => if m = true then ∀ n, c3 n = none → Q (.ref n) (put c3 n (.lst ys)) else Q (.lst ys) c3) items [] c1) X
  | .out k e, σ, cs, Q, _ => wpE e σ cs (fun d c1 => Q (outD k d "" .non) c1) (fun x c1 => ∃ d, IsEr x d ∧ Q (outD k .non x.tag d) c1)
  | .outv k cl a l, σ, cs, Q, X => wpE a σ cs (fun d c1 => match d with
    | .clo j t cl' => cl' = cl ∧ wpL j l t σ c1 (fun d c2 => Q (outD k d "" .non) c2) (fun x c2 => ∃ d, IsEr x d ∧ Q (outD k .non x.tag d) c2)
    | _ => False) X
@[simp] def wpEs : Es → Sl → Cs → (List D → Cs → Prop) → KX → Prop
  | .nil, _, cs, Q, _ => Q [] cs
  | .cons e es, σ, cs, Q, X => wpE e σ cs (fun d c1 => wpEs es σ c1 (fun ds c2 => Q (d :: ds) c2) X) X
@[simp] def wpL : Nat → Lt → LamT → Sl → Cs → KD → KX → Prop
  | 0, .cons t' e _, t, σ, cs, Q, X => t = t' ∧ wpE e σ cs Q X
  | j + 1, .cons _ _ r, t, σ, cs, Q, X => wpL j r t σ cs Q X
  | _, .nil, _, _, _, _, _ => False
end

structure Ends where
  nx : Sl → Cs → Prop
  bk : Sl → Cs → Prop := fun _ _ => False
  ct : Sl → Cs → Prop := fun _ _ => False
  rt : KD
  ex : Er → Sl → Cs → Prop := fun _ _ _ => False

def forL (p : Pat) (grd : Cs → Prop) (body : Sl → Cs → Ends → Prop) (K : Ends) : List D → Sl → Cs → Prop
  | [], σ, cs => grd cs ∧ K.nx σ cs
  | x :: xs, σ, cs => grd cs ∧ match bindP p [x] σ with
    | none => False
    | some σ1 => body σ1 cs { nx := fun σ' cs' => forL p grd body K xs σ' cs', ct := fun σ' cs' => forL p grd body K xs σ' cs', bk := K.nx, rt := K.rt, ex := K.ex }
def whlN (tst : Sl → Cs → KD → KX → Prop) (body : Sl → Cs → Ends → Prop) (K : Ends) : Nat → Sl → Cs → Prop
  | 0, _, _ => False
  | n + 1, σ, cs => tst σ cs (fun d cs' => (d = .bl true ∧ body σ cs' { nx := fun σ' cs' => whlN tst body K n σ' cs', ct := fun σ' cs' => whlN tst body K n σ' cs', bk := K.nx, rt := K.rt, ex := K.ex }) ∨ (d = .bl false ∧ K.nx σ cs')) fun x cs' => K.ex x σ cs'

@[simp] def wpS : S → Sl → Cs → Ends → Prop
  | .skip, σ, cs, K => K.nx σ cs
  | .seq a b, σ, cs, K => wpS a σ cs { nx := fun σ' cs' => wpS b σ' cs' K, bk := K.bk, ct := K.ct, rt := K.rt, ex := K.ex }
  | .asg p e, σ, cs, K => wpE e σ cs (fun d cs' => match bindP p [d] σ with
    | some σ' => K.nx σ' cs'
    | none => False) fun x cs' => K.ex x σ cs'
  | .exp e, σ, cs, K => wpE e σ cs (fun _ cs' => K.nx σ cs') fun x cs' => K.ex x σ cs'
  | .ret e, σ, cs, K => wpE e σ cs K.rt fun x cs' => K.ex x σ cs'
  | .ite c a b, σ, cs, K => wpE c σ cs (fun d cs' => match d with
    | .bl k => if k = true then wpS a σ cs' K else wpS b σ cs' K
    | _ => False) fun x cs' => K.ex x σ cs'
  | .whl c b, σ, cs, K => ∃ n, whlN (wpE c) (wpS b) K n σ cs
  | .fr p it as b, σ, cs, K => wpEs as σ cs (fun ds c1 => it ds c1 fun items grd => forL p grd (wpS b) K items σ c1) fun x cs' => K.ex x σ cs'
  | .brk, σ, cs, K => K.bk σ cs
  | .cont, σ, cs, K => K.ct σ cs
  | .rse sp as, σ, cs, K => wpEs as σ cs (fun ds cs' => K.ex (sp ds) σ cs') fun x cs' => K.ex x σ cs'
  | .frz i, σ, cs, K => match getV σ i with
    | some (.ref n) => match cs n with
      | some (.lst xs) => K.nx (σ.set i (some (.lst xs))) (del cs n)
      | some (.dic ks vs) => K.nx (σ.set i (some (.dic ks vs))) (del cs n)
      | some (.dit l) => K.nx (σ.set i (some (.dic (l.map fun p => .tup (p.1.map kD)) (l.map (·.2))))) (del cs n)
      | _ => False
    | _ => False

/-- a def's start: the arguments, then the names without a value -/
def start (n : Nat) (ds : List D) : Sl := ds.map some ++ List.replicate (n - ds.length) none
def okFn (n : Nat) (body : S) (sp : Spec) : Prop := ∀ ds cs Q X, sp ds cs Q X → wpS body (start n ds) cs { nx := fun _ cs' => Q .non cs', rt := Q, ex := fun x _ cs' => X x cs' }

/-! ### a draw -/
structure DrwOk (ns : List Int) (p c z : Int) : Prop where
  len : ns.length ≤ 63
  big : ∀ n ∈ ns, n.natAbs < 2 ^ (2 ^ 20)
  p0 : 0 ≤ p
  c0 : 0 ≤ c
  z0 : 0 ≤ z
  z1 : z < 2305843009213693951
/-! ### operations -/
def getL : D → Cs → Option (List D)
  | .lst xs, _ => some xs
  | .ref n, cs => match cs n with
    | some (.lst xs) => some xs
    | _ => none
  | _, _ => none
def getQ : D → Cs → Option (List D)
  | .tup xs, _ => some xs
  | d, cs => getL d cs
/-- the place that an index names -/
def ixn (n : Nat) (i : Int) : Option Nat := if 0 ≤ i then (if i < n then some i.toNat else none) else if -(n : Int) ≤ i then some (i + n).toNat else none
def ix (xs : List D) (i : Int) : Option D := (ixn xs.length i).bind fun j => xs[j]?
mutual
def eqD : D → D → Bool
  | .non, .non => true
  | .bl a, .bl b => a == b
  | .bl a, .int j => (if a then 1 else 0) == j
  | .int i, .bl b => i == (if b then 1 else 0)
  | .int i, .int j => i == j
  | .str x, .str y => x == y
  | .lst xs, .lst ys => eqDs xs ys
  | .tup xs, .tup ys => eqDs xs ys
  | _, _ => false
def eqDs : List D → List D → Bool
  | [], [] => true
  | x :: xs, y :: ys => eqD x y && eqDs xs ys
  | _, _ => false
end
def strOk (x : Str) : Bool := x.cps.all (· < 0x110000)
mutual
/-- a tree of plain data, not deeper -/
def pur : Nat → D → Bool
  | _, .non => true
  | _, .bl _ => true
  | _, .int _ => true
  | _, .str x => strOk x
  | k + 1, .lst xs => decide (xs.length ≤ lim) && purs k xs
  | k + 1, .tup xs => decide (xs.length ≤ lim) && purs k xs
  | _, _ => false
def purs : Nat → List D → Bool
  | _, [] => true
  | k, x :: xs => pur k x && purs k xs
end
/-- a cell's list as a tree -/
def deref (cs : Cs) : D → D
  | .ref n => match cs n with
    | some (.lst xs) => .lst xs
    | _ => .ref n
  | d => d
def flat : D → Bool
  | .non => true
  | .bl _ => true
  | .int _ => true
  | .str _ => true
  | _ => false
def inD (x : D) (xs : List D) : Bool := xs.any fun y => eqD y x

def sInt (C : Int → Int → Prop) (f : Int → Int → D) : Spec := fun ds cs Q _ => match ds with
  | [.int i, .int j] => C i j ∧ Q (f i j) cs
  | _ => False
def CTrue (_ _ : Int) : Prop := True
def mulOk (i j : Int) : Prop := (-(2 ^ 64) < i ∧ i < 2 ^ 64) ∨ (-(2 ^ 64) < j ∧ j < 2 ^ 64) ∨ i.natAbs.log2 + j.natAbs.log2 < 1000000
def divOk (_ j : Int) : Prop := 0 < j ∧ j.natAbs.log2 < 9000
def modOk (_ j : Int) : Prop := 0 < j
def powOk (i j : Int) : Prop := 0 ≤ j ∧ j ≤ 1000000 ∧ i.natAbs < 2 ^ 64
/-- +: ints, texts, lists, tuples -/
def sAdd : Spec := fun ds cs Q _ => match ds with
  | [.int i, .int j] => Q (.int (i + j)) cs
  | [.str a, .str b] => a.length + b.length ≤ lim ∧ Q (.str (a ++ b)) cs
  | [.tup a, .tup b] => a ≠ [] ∧ a.length + b.length ≤ lim ∧ Q (.tup (a ++ b)) cs
  | [x, y] => match getL x cs, getL y cs with
    | some a, some b => a.length + b.length ≤ lim ∧ Q (.lst (a ++ b)) cs
    | _, _ => False
  | _ => False
def sSub : Spec := sInt CTrue fun i j => .int (i - j)
def sMul : Spec := sInt mulOk fun i j => .int (i * j)
def sDiv : Spec := sInt divOk fun i j => .int (i / j)
def sMod : Spec := sInt modOk fun i j => .int (i % j)
def sPow : Spec := sInt powOk fun i j => .int (i ^ j.toNat)
def sLt : Spec := sInt CTrue fun i j => .bl (decide (i < j))
def sLe : Spec := sInt CTrue fun i j => .bl (decide (i ≤ j))
def sGt : Spec := sInt CTrue fun i j => .bl (decide (j < i))
def sGe : Spec := sInt CTrue fun i j => .bl (decide (j ≤ i))
def sNeg : Spec := fun ds cs Q _ => match ds with
  | [.int i] => Q (.int (-i)) cs
  | _ => False
def sNot : Spec := fun ds cs Q _ => match ds with
  | [.bl b] => Q (.bl (!b)) cs
  | _ => False
def sEq : Spec := fun ds cs Q _ => match ds with
  | [x, y] => pur 64 (deref cs x) = true ∧ pur 64 (deref cs y) = true ∧ Q (.bl (eqD (deref cs x) (deref cs y))) cs
  | _ => False
def sNe : Spec := fun ds cs Q _ => match ds with
  | [x, y] => pur 64 (deref cs x) = true ∧ pur 64 (deref cs y) = true ∧ Q (.bl (!eqD (deref cs x) (deref cs y))) cs
  | _ => False
def isN : D → Bool
  | .non => true
  | _ => false
def sIsN : Spec := fun ds cs Q _ => match ds with
  | [x, .non] => Q (.bl (isN x)) cs
  | _ => False
def sNotN : Spec := fun ds cs Q _ => match ds with
  | [x, .non] => Q (.bl (!isN x)) cs
  | _ => False
/-- in a list or tuple of flat things -/
def sIn : Spec := fun ds cs Q _ => match ds with
  | [x, y] => match getQ y cs with
    | some xs => flat x = true ∧ xs.all flat = true ∧ Q (.bl (inD x xs)) cs
    | none => False
  | _ => False
def sNotIn : Spec := fun ds cs Q _ => match ds with
  | [x, y] => match getQ y cs with
    | some xs => flat x = true ∧ xs.all flat = true ∧ Q (.bl (!inD x xs)) cs
    | none => False
  | _ => False
def sLen : Spec := fun ds cs Q _ => match ds with
  | [.str s] => s.length ≤ lim ∧ Q (.int s.length) cs
  | [x] => match getQ x cs with
    | some xs => Q (.int xs.length) cs
    | none => False
  | _ => False
def sIx : Spec := fun ds cs Q _ => match ds with
  | [x, .int i] => match getQ x cs with
    | some xs => match ix xs i with
      | some d => Q d cs
      | none => False
    | none => False
  | _ => False
/-- displays -/
def sList : Spec := fun ds cs Q _ => ds.length ≤ lim ∧ Q (.lst ds) cs
def sListM : Spec := fun ds cs Q _ => ds.length ≤ lim ∧ ∀ n, cs n = none → Q (.ref n) (put cs n (.lst ds))
def sTup : Spec := fun ds cs Q _ => ds.length ≤ lim ∧ Q (.tup ds) cs
/-- list(x): a tree; a cell -/
def sListOf : Spec := fun ds cs Q _ => match ds with
  | [x] => match getQ x cs with
    | some xs => Q (.lst xs) cs
    | none => False
  | _ => False
def sListOfM : Spec := fun ds cs Q _ => match ds with
  | [x] => match getQ x cs with
    | some xs => ∀ n, cs n = none → Q (.ref n) (put cs n (.lst xs))
    | none => False
  | _ => False
def sTupOf : Spec := fun ds cs Q _ => match ds with
  | [x] => match getQ x cs with
    | some xs => Q (.tup xs) cs
    | none => False
  | _ => False
def rgD (a b : Int) : List D := (List.range (b - a).toNat).map fun i => D.int (a + (i : Nat))
/-- list(range(a, b)), tuple(range(a, b)) -/
def sListRg : Spec := fun ds cs Q _ => match ds with
  | [.int a, .int b] => -(2 ^ 62) ≤ a ∧ a < 2 ^ 62 ∧ -(2 ^ 62) ≤ b ∧ b < 2 ^ 62 ∧ (b - a).toNat ≤ lim ∧ Q (.lst (rgD a b)) cs
  | _ => False
/-- xs * k: a cell -/
def sRepM : Spec := fun ds cs Q _ => match ds with
  | [x, .int k] => match getL x cs with
    | some xs => -(2 ^ 63) ≤ k ∧ k < 2 ^ 63 ∧ xs.length * k.toNat ≤ lim ∧ ∀ n, cs n = none → Q (.ref n) (put cs n (.lst (List.replicate k.toNat xs).flatten))
    | none => False
  | _ => False
def sRep : Spec := fun ds cs Q _ => match ds with
  | [x, .int k] => match getL x cs with
    | some xs => -(2 ^ 63) ≤ k ∧ k < 2 ^ 63 ∧ xs.length * k.toNat ≤ lim ∧ Q (.lst (List.replicate k.toNat xs).flatten) cs
    | none => False
  | _ => False
def sIxAt (n d : Nat) : Option Int → Nat
  | none => d
  | some i => if i < 0 then (i + n).toNat else min i.toNat n
/-- a cell is changed -/
def sAppend : Spec := fun ds cs Q _ => match ds with
  | [.ref n, y] => match cs n with
    | some (.lst xs) => xs.length < lim ∧ Q .non (put cs n (.lst (xs ++ [y])))
    | _ => False
  | _ => False
def sInsert : Spec := fun ds cs Q _ => match ds with
  | [.ref n, .int i, y] => match cs n with
    | some (.lst xs) => xs.length < lim ∧ 0 ≤ i ∧ i < 2 ^ 63 ∧ Q .non (put cs n (.lst (xs.take i.toNat ++ [y] ++ xs.drop i.toNat)))
    | _ => False
  | _ => False
/-- value, list, place -/
def sSetIx : Spec := fun ds cs Q _ => match ds with
  | [v, .ref n, .int i] => match cs n with
    | some (.lst xs) => match ixn xs.length i with
      | some j => Q .non (put cs n (.lst (xs.set j v)))
      | none => False
    | _ => False
  | _ => False
def chkL (d : D) (cs : Cs) : Prop := match getL d cs with
  | some _ => True
  | none => False
/-- the script, cut to 63 items -/
def sCutScr : Spec := fun ds cs Q _ => match ds with
  | [.scr] => ∀ ns : List Int, ns.length ≤ 63 → (∀ n ∈ ns, n.natAbs < 2 ^ (2 ^ 20)) → Q (.lst (ns.map D.int)) cs
  | _ => False
def sMax2 : Spec := sInt CTrue fun i j => .int (if j > i then j else i)
def sMin2 : Spec := sInt CTrue fun i j => .int (if j < i then j else i)
def asBools : List D → Option (List Bool)
  | [] => some []
  | .bl b :: r => (asBools r).map (b :: ·)
  | _ => none
def asInts : List D → Option (List Int)
  | [] => some []
  | .int b :: r => (asInts r).map (b :: ·)
  | _ => none
def sAll : Spec := fun ds cs Q _ => match ds with
  | [x] => match getL x cs with
    | some xs => match asBools xs with
      | some bs => Q (.bl (bs.all id)) cs
      | none => False
    | none => False
  | _ => False
/-- isinstance: the kinds -/
inductive Ty where
  | int | bool | str | list | tuple
def isTy (cs : Cs) : D → Ty → Option Bool
  | .non, _ => some false
  | .bl _, .int => some true
  | .bl _, .bool => some true
  | .bl _, _ => some false
  | .int _, .int => some true
  | .int _, _ => some false
  | .str _, .str => some true
  | .str _, _ => some false
  | .tup _, .tuple => some true
  | .tup _, _ => some false
  | .lst _, .list => some true
  | .lst _, _ => some false
  | .dic _ _, _ => none
  | .scr, _ => none
  | .clo _ _ _, _ => none
  | .ref n, t => match cs n, t with
    | some (.lst _), .list => some true
    | some (.lst _), _ => some false
    | _, _ => none
def sIsi (t : Ty) : Spec := fun ds cs Q _ => match ds with
  | [x] => match isTy cs x t with
    | some b => Q (.bl b) cs
    | none => False
  | _ => False
/-- isinstance(x, (s, t)) -/
def sIsi2 (s t : Ty) : Spec := fun ds cs Q _ => match ds with
  | [x] => match isTy cs x s, isTy cs x t with
    | some a, some b => Q (.bl (a || b)) cs
    | _, _ => False
  | _ => False

/-! ### what is walked -/
def grdL (d : D) (cs : Cs) : Cs → Prop := fun cs' => match d with
  | .ref n => cs' n = cs n
  | _ => True
def iSeq : ISpec := fun ds cs R => match ds with
  | [x] => match getQ x cs with
    | some xs => R xs (grdL x cs)
    | none => False
  | _ => False
def iRng1 : ISpec := fun ds _ R => match ds with
  | [.int b] => -(2 ^ 62) ≤ b ∧ b < 2 ^ 62 ∧ R (rgD 0 b) (fun _ => True)
  | _ => False
def enumD (n : Int) : List D → List D
  | [] => []
  | x :: r => .tup [.int n, x] :: enumD (n + 1) r
def iEnum : ISpec := fun ds cs R => match ds with
  | [x] => match getQ x cs with
    | some xs => R (enumD 0 xs) (grdL x cs)
    | none => False
  | _ => False
def zipD : List D → List D → List D
  | x :: r, y :: s => .tup [x, y] :: zipD r s
  | _, _ => []
def iZip : ISpec := fun ds cs R => match ds with
  | [x, y] => match x, y with
    | .tup xs, .tup ys => R (zipD xs ys) (fun _ => True)
    | x, y => match getL x cs, getL y cs with
      | some xs, some ys => R (zipD xs ys) (fun c => grdL x cs c ∧ grdL y cs c)
      | _, _ => False
  | _ => False
end G

/-! GRel: how trees and cells lie in the abstract heap. -/
namespace G
open PySem L2
open Evl (Ex)

/-- a lambda as it lies: its code object at c, its defaults dV -/
def LamO (f c : Addr) (t : LamT) (cl : List (Str × Addr)) (dV : Value) : HO := .ext fun h => ∃ pm ctv : Value, h.get? f = some { cls := .type "function", data := .func { PySem.W.kla_fn "<lambda>" t.q t.params t.body t.scope cl pm (.ref c) ctv with defaults := dV } }
/-- the tables of the written defs that K leaves out: each with the name of its def's lambdas -/
def tabsOf (K : PySem.W.Frag) : List (Addr × Str) := K.filterMap fun q => match q.2.data with
  | .func fd => match fd.code with
    | .ref c => if (K.lookup (He.tabOf K c)).isNone then some (He.tabOf K c, fd.qualname ++ ".<locals>." ++ "<lambda>") else none
    | _ => none
  | _ => none
/-- a world: the known part of the heap, the cells' addresses, the tables of code objects -/
structure Wd where
  B : Hp
  r : Nat → Option Addr
  k : Nat
structure Wd.le (a b : Wd) : Prop where
  B : Ex a.B b.B
  r : ∀ n x, a.r n = some x → b.r n = some x
theorem Wd.le.refl (a : Wd) : a.le a := ⟨Ex.refl _, fun _ _ h => h⟩
theorem Wd.le.trans {a b c : Wd} (h : a.le b) (k : b.le c) : a.le c := ⟨h.B.trans k.B, fun n x e => k.r n x (h.r n x e)⟩

section
variable (K : PySem.W.Frag)
mutual
def Rp (wd : Wd) : D → V → Prop
  | .non, v => v = .non
  | .bl b, v => v = .bl b
  | .int i, v => v = .int i
  | .str s, v => v = .str s
  | .tup ds, v => ∃ a xs, v = .ref a ∧ wd.B a = some (.tup xs) ∧ RpL wd ds xs
  | .lst ds, v => ∃ a xs, v = .ref a ∧ wd.B a = some (.lst xs) ∧ RpL wd ds xs
  | .dic ks vs, v => ∃ a o, v = .ref a ∧ ((∃ kvs : List (L2.Key × V), wd.B a = some (.frz o (.dK kvs)) ∧ ks = kvs.map (fun p => kD p.1) ∧ RpL wd vs (kvs.map (·.2))) ∨ ∃ kvs : List (List L2.Key × V), wd.B a = some (.frz o (.dT kvs)) ∧ ks = kvs.map (fun p => D.tup (p.1.map kD)) ∧ RpL wd vs (kvs.map (·.2)))
  | .ref n, v => ∃ a, wd.r n = some a ∧ v = .ref a
  | .scr, v => ∃ (a : Addr) (ns : List Int), v = .ref a ∧ SqL K wd.B a (ns.map V.int) ∧ ns.length ≤ 63 ∧ ∀ n ∈ ns, n.natAbs < 2 ^ (2 ^ 20)
  | .clo _ t cl, v => ∃ (f c : Addr) (dV : Value), v = .ref f ∧ wd.B f = some (LamO f c t (L2.cloFrom cl t.scope.names []) dV) ∧ wd.B c = some (LamX.CodeO c t.q) ∧ ((t.dfl = [] ∧ dV = .none) ∨ (t.dfl ≠ [] ∧ ∃ p, dV = .ref p ∧ wd.B p = some (.tup (t.dfl.map V.int))))
def RpL (wd : Wd) : List D → List V → Prop
  | [], vs => vs = []
  | d :: ds, vs => ∃ v r, vs = v :: r ∧ Rp wd d v ∧ RpL wd ds r
end
variable {K} {wd wd' : Wd}
mutual
theorem Rp.mono (h : wd.le wd') : ∀ (d : D) (v : V), Rp K wd d v → Rp K wd' d v
  | .non, _, q => q
  | .bl _, _, q => q
  | .int _, _, q => q
  | .str _, _, q => q
  | .tup ds, v, q => by
    obtain ⟨a, xs, e, s, r⟩ := q
    exact ⟨a, xs, e, h.B a _ s, RpL.mono h ds xs r⟩
  | .lst ds, v, q => by
    obtain ⟨a, xs, e, s, r⟩ := q
    exact ⟨a, xs, e, h.B a _ s, RpL.mono h ds xs r⟩
  | .dic ks vs, v, q => by
    obtain ⟨a, o, e, q⟩ := q
    rcases q with ⟨kvs, h1, h2, h3⟩ | ⟨kvs, h1, h2, h3⟩
    · exact ⟨a, o, e, .inl ⟨kvs, h.B a _ h1, h2, RpL.mono h vs _ h3⟩⟩
    · exact ⟨a, o, e, .inr ⟨kvs, h.B a _ h1, h2, RpL.mono h vs _ h3⟩⟩
  | .scr, v, q => by
    obtain ⟨a, ns, e, s, r⟩ := q
    exact ⟨a, ns, e, Evl.ex_l h.B s, r⟩
  | .ref n, v, q => by
    obtain ⟨a, e, z⟩ := q
    exact ⟨a, h.r n a e, z⟩
  | .clo _ _ _, v, q => by
    obtain ⟨f, c, dV, e, h1, h2, h3⟩ := q
    exact ⟨f, c, dV, e, h.B _ _ h1, h.B _ _ h2, h3.imp id fun ⟨n, p, e, z⟩ => ⟨n, p, e, h.B _ _ z⟩⟩
theorem RpL.mono (h : wd.le wd') : ∀ (ds : List D) (vs : List V), RpL K wd ds vs → RpL K wd' ds vs
  | [], _, q => q
  | d :: ds, vs, q => by
    obtain ⟨v, r, e, a, b⟩ := q
    exact ⟨v, r, e, Rp.mono h d v a, RpL.mono h ds r b⟩
end
theorem RpL.length : ∀ {ds : List D} {vs : List V}, RpL K wd ds vs → vs.length = ds.length
  | [], vs, q => by
    have e : vs = [] := q
    rw [e]
    rfl
  | d :: ds, vs, q => by
    obtain ⟨v, r, e, a, b⟩ := q
    rw [e, List.length_cons, List.length_cons, RpL.length b]
theorem RpL.get : ∀ {ds : List D} {vs : List V} {i : Nat} {d : D}, RpL K wd ds vs → ds[i]? = some d → ∃ v, vs[i]? = some v ∧ Rp K wd d v
  | [], _, _, _, _, e => by simp at e
  | d :: ds, vs, 0, d', q, e => by
    obtain ⟨v, r, ev, a, b⟩ := q
    simp at e
    subst e ev
    exact ⟨v, rfl, a⟩
  | d :: ds, vs, i + 1, d', q, e => by
    obtain ⟨v, r, ev, a, b⟩ := q
    subst ev
    obtain ⟨v', h1, h2⟩ := RpL.get (i := i) (d := d') b (by simpa using e)
    exact ⟨v', by simpa using h1, h2⟩
theorem RpL.append : ∀ {ds es : List D} {vs ws : List V}, RpL K wd ds vs → RpL K wd es ws → RpL K wd (ds ++ es) (vs ++ ws)
  | [], es, vs, ws, h, k => by
    have e : vs = [] := h
    subst e
    exact k
  | d :: ds, es, vs, ws, h, k => by
    obtain ⟨v, r, e, a, b⟩ := h
    subst e
    exact ⟨v, r ++ ws, rfl, a, RpL.append b k⟩
theorem RpL.set : ∀ {ds : List D} {vs : List V} {i : Nat} {d : D} {v : V}, RpL K wd ds vs → Rp K wd d v → RpL K wd (ds.set i d) (vs.set i v)
  | [], vs, _, _, _, h, _ => by
    have e : vs = [] := h
    subst e
    exact rfl
  | d :: ds, vs, 0, d', v', h, k => by
    obtain ⟨v, r, e, a, b⟩ := h
    subst e
    exact ⟨v', r, rfl, k, b⟩
  | d :: ds, vs, i + 1, d', v', h, k => by
    obtain ⟨v, r, e, a, b⟩ := h
    subst e
    exact ⟨v, r.set i v', rfl, a, RpL.set b k⟩
theorem RpL.take : ∀ {ds : List D} {vs : List V} (n : Nat), RpL K wd ds vs → RpL K wd (ds.take n) (vs.take n)
  | [], vs, n, h => by
    have e : vs = [] := h
    subst e
    rw [List.take_nil, List.take_nil]
    exact rfl
  | d :: ds, vs, 0, h => rfl
  | d :: ds, vs, n + 1, h => by
    obtain ⟨v, r, e, a, b⟩ := h
    subst e
    exact ⟨v, r.take n, rfl, a, RpL.take n b⟩
theorem RpL.drop : ∀ {ds : List D} {vs : List V} (n : Nat), RpL K wd ds vs → RpL K wd (ds.drop n) (vs.drop n)
  | [], vs, n, h => by
    have e : vs = [] := h
    subst e
    rw [List.drop_nil, List.drop_nil]
    exact rfl
  | d :: ds, vs, 0, h => h
  | d :: ds, vs, n + 1, h => by
    obtain ⟨v, r, e, a, b⟩ := h
    subst e
    exact RpL.drop n b
theorem RpL.one {d : D} {vs : List V} (h : RpL K wd [d] vs) : ∃ v, vs = [v] ∧ Rp K wd d v := by
  obtain ⟨v, r, e, a, b⟩ := h
  have e2 : r = [] := b
  subst e2
  exact ⟨v, e, a⟩
theorem RpL.two {d e : D} {vs : List V} (h : RpL K wd [d, e] vs) : ∃ v w, vs = [v, w] ∧ Rp K wd d v ∧ Rp K wd e w := by
  obtain ⟨v, r, e1, a, b⟩ := h
  obtain ⟨w, e2, c⟩ := RpL.one b
  subst e2
  exact ⟨v, w, e1, a, c⟩
theorem RpL.three {d e f : D} {vs : List V} (h : RpL K wd [d, e, f] vs) : ∃ v w u, vs = [v, w, u] ∧ Rp K wd d v ∧ Rp K wd e w ∧ Rp K wd f u := by
  obtain ⟨v, r, e1, a, b⟩ := h
  obtain ⟨w, u, e2, c, d⟩ := RpL.two b
  subst e2
  exact ⟨v, w, u, e1, a, c, d⟩
end

/-- a cell's content -/
def RpO (K : PySem.W.Frag) (wd : Wd) : Ob → HO → Prop
  | .lst ds, o => ∃ xs, o = .lst xs ∧ RpL K wd ds xs
  | .dic ks vs, o => ∃ kvs : List (L2.Key × V), o = .dK kvs ∧ ks = kvs.map (fun p => kD p.1) ∧ RpL K wd vs (kvs.map (·.2))
  | .ins C fs, o => ∃ (dx : Addr) (gs : List (Str × V)), o = .ins C dx gs ∧ gs.map (·.1) = fs.map (·.1) ∧ RpL K wd (fs.map (·.2)) (gs.map (·.2))
  | .set w m S n, o => ∃ a, wd.r m = some a ∧ o = SetO w a S n
  | .dit l, o => ∃ kvs : List (List L2.Key × V), o = .dT kvs ∧ l.map (·.1) = kvs.map (·.1) ∧ RpL K wd (l.map (·.2)) (kvs.map (·.2))
  | .drw, o => ∃ (ns : List Int) (p c z : Int) (a : Addr), o = .lst [.ref a, .int p, .int c, .int z] ∧ wd.B a = some (.lst (ns.map V.int)) ∧ DrwOk ns p c z
theorem RpO.mono {K : PySem.W.Frag} {wd wd' : Wd} (h : wd.le wd') : ∀ {o : Ob} {u : HO}, RpO K wd o u → RpO K wd' o u
  | .lst ds, _, ⟨xs, e, r⟩ => ⟨xs, e, RpL.mono h ds xs r⟩
  | .dic ks vs, _, ⟨kvs, e, k, r⟩ => ⟨kvs, e, k, RpL.mono h vs _ r⟩
  | .ins _ _, _, ⟨dx, gs, e, k, r⟩ => ⟨dx, gs, e, k, RpL.mono h _ _ r⟩
  | .set _ m _ _, _, ⟨a, e, z⟩ => ⟨a, h.r m a e, z⟩
  | .dit l, _, ⟨kvs, e, k, r⟩ => ⟨kvs, e, k, RpL.mono h _ _ r⟩
  | .drw, _, ⟨ns, p, c, z, a, e, s, r⟩ => ⟨ns, p, c, z, a, e, h.B a _ s, r⟩
theorem RpO.notbl {K : PySem.W.Frag} {wd : Wd} : ∀ {o : Ob} {u : HO}, RpO K wd o u → ∀ q, u ≠ .tbl q
  | .lst ds, _, ⟨xs, e, r⟩, q => by rw [e]; intro z; cases z
  | .dic _ _, _, ⟨kvs, e, _⟩, q => by rw [e]; intro z; cases z
  | .ins _ _, _, ⟨dx, gs, e, _⟩, q => by rw [e]; intro z; cases z
  | .set _ _ _ _, _, ⟨a, _, e⟩, q => by rw [e]; intro z; cases z
  | .dit _, _, ⟨kvs, e, _⟩, q => by rw [e]; intro z; cases z
  | .drw, _, ⟨ns, p, c, z, a, e, s, r⟩, q => by rw [e]; intro z; cases z
/-- the table at P: each code object that it tells is known and bears the name q -/
def TabB' (B H : Hp) (P : Addr) (q : Str) : Prop := ∃ ps : Array Value, H P = some (.tbl ps) ∧ TriplesOk ps.toList ∧ ∀ (pos : Pos) (cv : Value), codeAmong pos ps.toList = some cv → ∃ c, cv = .ref c ∧ B c = some (LamX.CodeO c q)
/-- no table of code objects, no tuple -/
def NT (o : HO) : Prop := (∀ q, o ≠ .tbl q) ∧ ∀ xs, o ≠ .tup xs
theorem NT.lst {xs : List V} : NT (.lst xs) := ⟨fun _ z => (by cases z), fun _ z => (by cases z)⟩
/-- the state: H holds the world's known part, an untold part F that stays, the cells -/
structure Rl (K : PySem.W.Frag) (wd : Wd) (F : Hp) (cs : Cs) (H : Hp) : Prop where
  b : Ex wd.B H
  f : Ex F H
  bf : ∀ a o, wd.B a = some o → F a = none
  inj : ∀ n m a, wd.r n = some a → wd.r m = some a → n = m
  cell : ∀ n o, cs n = some o → ∃ a u, wd.r n = some a ∧ wd.B a = none ∧ F a = none ∧ H a = some u ∧ RpO K wd o u
  ran : ∀ n a, wd.r n = some a → ∃ o, H a = some o ∧ ∀ q, o ≠ .tbl q
  top : ∀ n, wd.k ≤ n → wd.r n = none
  rf : ∀ n a, wd.r n = some a → F a = none
  fe : ∀ a o, F a = some o → NT o
  tab : ∀ p ∈ tabsOf K, TabB' wd.B H p.1 p.2
  bt : ∀ a q, wd.B a ≠ some (.tbl q)
section
variable {K : PySem.W.Frag} {wd : Wd} {F H : Hp} {cs : Cs}
/-- less is known of the cells -/
theorem Rl.less {cs' : Cs} (R : Rl K wd F cs H) (h : ∀ n o, cs' n = some o → cs n = some o) : Rl K wd F cs' H :=
  ⟨R.b, R.f, R.bf, R.inj, fun n o e => R.cell n o (h n o e), R.ran, R.top, R.rf, R.fe, R.tab, R.bt⟩
/-- a table is no known object -/
theorem Rl.notbl (R : Rl K wd F cs H) {P : Addr} {ps : Array Value} (h : H P = some (.tbl ps)) {a : Addr} {o : HO} (e : H a = some o) (n : ∀ q, o ≠ .tbl q) : a ≠ P := fun z => by
  rw [z, h] at e
  exact n ps (Option.some.inj e).symm
theorem Rl.tabNew (R : Rl K wd F cs H) {p : Addr} (hp : H p = none) {o : HO} {B' : Hp} (b : Ex wd.B B') : ∀ q ∈ tabsOf K, TabB' B' (upd H p o) q.1 q.2 := fun q hq => by
  obtain ⟨ps, h1, h2, h3⟩ := R.tab q hq
  refine ⟨ps, by rw [upd_ne (ne_of_none h1 hp)]; exact h1, h2, fun pos cv e => ?_⟩
  obtain ⟨c, e1, e2⟩ := h3 pos cv e
  exact ⟨c, e1, b _ _ e2⟩
theorem Rl.bnone (R : Rl K wd F cs H) {p : Addr} (h : H p = none) : wd.B p = none := Evl.fresh_back R.b h
/-- a new known object -/
theorem Rl.btNew (R : Rl K wd F cs H) {p : Addr} {o : HO} (ho : ∀ q, o ≠ .tbl q) : ∀ a q, upd wd.B p o a ≠ some (.tbl q) := fun a q e => by
  by_cases h : a = p
  · subst h
    rw [upd_same] at e
    exact ho q (Option.some.inj e)
  · rw [upd_ne h] at e
    exact R.bt a q e
theorem Rl.new (R : Rl K wd F cs H) {p : Addr} (hp : H p = none) (o : HO) (ho : ∀ q, o ≠ .tbl q := by (intro _ z; cases z)) : Rl K ⟨upd wd.B p o, wd.r, wd.k⟩ F cs (upd H p o) ∧ wd.le ⟨upd wd.B p o, wd.r, wd.k⟩ := by
  have bn := R.bnone hp
  have fn := Evl.fresh_back R.f hp
  have le : wd.le ⟨upd wd.B p o, wd.r, wd.k⟩ := ⟨Ex.new bn, fun _ _ h => h⟩
  refine ⟨⟨fun a u e => ?_, fun a u e => ?_, fun a u e => ?_, R.inj, fun n u e => ?_, fun n a e => ?_, R.top, R.rf, R.fe, R.tabNew hp le.B, R.btNew ho⟩, le⟩
  · have e : upd wd.B p o a = some u := e
    by_cases h : a = p
    · subst h
      rw [upd_same] at e ⊢
      exact e
    · rw [upd_ne h] at e ⊢
      exact R.b a u e
  · rw [upd_ne (ne_of_none e fn)]
    exact R.f a u e
  · have e : upd wd.B p o a = some u := e
    by_cases h : a = p
    · subst h
      exact fn
    · rw [upd_ne h] at e
      exact R.bf a u e
  · obtain ⟨a, v, e1, e2, e3, e4, e5⟩ := R.cell n u e
    have ne : a ≠ p := ne_of_none e4 hp
    exact ⟨a, v, e1, (upd_ne ne).trans e2, e3, (upd_ne ne).trans e4, e5.mono le⟩
  · obtain ⟨u, hu, hn⟩ := R.ran n a e
    exact ⟨u, by rw [upd_ne (ne_of_none hu hp)]; exact hu, hn⟩
/-- a new cell: its number is free -/
theorem Rl.cellNew (R : Rl K wd F cs H) {p : Addr} (hp : H p = none) {o : Ob} {u : HO} (h : RpO K wd o u) : ∃ n wd', cs n = none ∧ wd.le wd' ∧ wd'.r n = some p ∧ Rl K wd' F (put cs n o) (upd H p u) := by
  have bn := R.bnone hp
  have fn := Evl.fresh_back R.f hp
  have rk : wd.r wd.k = none := R.top wd.k (Nat.le_refl _)
  have nr : ∀ m b, wd.r m = some b → b ≠ p := fun m b e => by
    obtain ⟨w, hw, _⟩ := R.ran m b e
    exact ne_of_none hw hp
  have le : wd.le ⟨wd.B, fun m => if m = wd.k then some p else wd.r m, wd.k + 1⟩ := ⟨Ex.refl _, fun m b e => by
    show (if m = wd.k then some p else wd.r m) = some b
    by_cases hm : m = wd.k
    · rw [hm, rk] at e
      cases e
    · rw [if_neg hm]
      exact e⟩
  have ck : cs wd.k = none := by
    cases q : cs wd.k with
    | none => rfl
    | some o =>
      obtain ⟨a, v, e1, _⟩ := R.cell _ _ q
      rw [rk] at e1
      cases e1
  refine ⟨wd.k, ⟨wd.B, fun m => if m = wd.k then some p else wd.r m, wd.k + 1⟩, ck, le, if_pos rfl, fun b w e => ?_, fun b w e => ?_, R.bf, fun n m a e1 e2 => ?_, fun m w e => ?_, fun m b e => ?_, fun m hm => ?_, fun m b e => ?_, R.fe, R.tabNew hp le.B, R.bt⟩
  · rw [upd_ne (ne_of_none e bn)]
    exact R.b b w e
  · rw [upd_ne (ne_of_none e fn)]
    exact R.f b w e
  · have e1 : (if n = wd.k then some p else wd.r n) = some a := e1
    have e2 : (if m = wd.k then some p else wd.r m) = some a := e2
    by_cases hn : n = wd.k
    · by_cases hm : m = wd.k
      · rw [hn, hm]
      · rw [if_pos hn] at e1
        rw [if_neg hm] at e2
        exact absurd (Option.some.inj e1).symm (nr m a e2)
    · by_cases hm : m = wd.k
      · rw [if_pos hm] at e2
        rw [if_neg hn] at e1
        exact absurd (Option.some.inj e2).symm (nr n a e1)
      · rw [if_neg hn] at e1
        rw [if_neg hm] at e2
        exact R.inj n m a e1 e2
  · by_cases hm : m = wd.k
    · subst hm
      have ew : o = w := by
        unfold put at e
        rw [if_pos rfl] at e
        exact Option.some.inj e
      subst ew
      exact ⟨p, u, if_pos rfl, bn, fn, upd_same, h.mono le⟩
    · unfold put at e
      rw [if_neg hm] at e
      obtain ⟨b, x, f1, f2, f3, f4, f5⟩ := R.cell m w e
      exact ⟨b, x, (if_neg hm).trans f1, f2, f3, (upd_ne (nr m b f1)).trans f4, f5.mono le⟩
  · have e : (if m = wd.k then some p else wd.r m) = some b := e
    by_cases hm : m = wd.k
    · rw [if_pos hm] at e
      have eb := Option.some.inj e
      subst eb
      exact ⟨u, upd_same, h.notbl⟩
    · rw [if_neg hm] at e
      obtain ⟨w, hw, hn⟩ := R.ran m b e
      exact ⟨w, by rw [upd_ne (nr m b e)]; exact hw, hn⟩
  · have hm : wd.k + 1 ≤ m := hm
    show (if m = wd.k then some p else wd.r m) = none
    rw [if_neg (by omega)]
    exact R.top m (by omega)
  · have e : (if m = wd.k then some p else wd.r m) = some b := e
    by_cases hm : m = wd.k
    · rw [if_pos hm] at e
      have eb := Option.some.inj e
      subst eb
      exact fn
    · rw [if_neg hm] at e
      exact R.rf m b e
/-- a cell is written -/
theorem Rl.write (R : Rl K wd F cs H) {n : Nat} {a : Addr} {o' : Ob} {u : HO} (hn : ∃ o, cs n = some o) (ha : wd.r n = some a) (h : RpO K wd o' u) : Rl K wd F (put cs n o') (upd H a u) := by
  obtain ⟨o, hn⟩ := hn
  obtain ⟨a', v, e1, e2, e3, e4, e5⟩ := R.cell n o hn
  have ea : a' = a := Option.some.inj (e1.symm.trans ha)
  subst ea
  refine ⟨fun b w e => ?_, fun b w e => ?_, R.bf, R.inj, fun m w e => ?_, fun m b e => ?_, R.top, R.rf, R.fe, fun p hp => ?_, R.bt⟩
  · rw [upd_ne (ne_of_none e e2)]
    exact R.b b w e
  · rw [upd_ne (ne_of_none e e3)]
    exact R.f b w e
  · by_cases hm : m = n
    · subst hm
      have ew : o' = w := by
        unfold put at e
        rw [if_pos rfl] at e
        exact Option.some.inj e
      subst ew
      exact ⟨a', u, e1, e2, e3, upd_same, h⟩
    · unfold put at e
      rw [if_neg hm] at e
      obtain ⟨b, x, f1, f2, f3, f4, f5⟩ := R.cell m w e
      have ne : b ≠ a' := fun z => hm (R.inj m n a' (by rw [← z]; exact f1) e1)
      exact ⟨b, x, f1, f2, f3, by rw [upd_ne ne]; exact f4, f5⟩
  · by_cases h2 : b = a'
    · subst h2
      exact ⟨u, upd_same, h.notbl⟩
    · obtain ⟨w, hw, hn⟩ := R.ran m b e
      exact ⟨w, by rw [upd_ne h2]; exact hw, hn⟩
  · obtain ⟨ps, h1, h2, h3⟩ := R.tab p hp
    have ne : a' ≠ p.1 := R.notbl h1 e4 (e5.notbl)
    exact ⟨ps, by rw [upd_ne (Ne.symm ne)]; exact h1, h2, h3⟩
/-- a cell's list becomes known: it is written no more -/
theorem Rl.freeze (R : Rl K wd F cs H) {n : Nat} {ds : List D} (hn : cs n = some (.lst ds)) : ∃ wd' a, wd.le wd' ∧ wd.r n = some a ∧ Rl K wd' F (del cs n) H ∧ Rp K wd' (.lst ds) (.ref a) := by
  obtain ⟨a, u, e1, e2, e3, e4, xs, e5, e6⟩ := R.cell n _ hn
  subst e5
  have le : wd.le ⟨upd wd.B a (.lst xs), wd.r, wd.k⟩ := ⟨Ex.new e2, fun _ _ h => h⟩
  refine ⟨⟨upd wd.B a (.lst xs), wd.r, wd.k⟩, a, le, e1, ⟨fun b w e => ?_, R.f, fun b w e => ?_, R.inj, fun m w e => ?_, R.ran, R.top, R.rf, R.fe, fun p hp => ?_, R.btNew (fun q z => by cases z)⟩, ⟨a, xs, rfl, upd_same, RpL.mono le _ _ e6⟩⟩
  · have e : upd wd.B a (.lst xs) b = some w := e
    by_cases h : b = a
    · subst h
      rw [upd_same] at e
      rw [← e]
      exact e4
    · rw [upd_ne h] at e
      exact R.b b w e
  · have e : upd wd.B a (.lst xs) b = some w := e
    by_cases h : b = a
    · subst h
      exact e3
    · rw [upd_ne h] at e
      exact R.bf b w e
  · unfold del at e
    by_cases hm : m = n
    · rw [if_pos hm] at e
      cases e
    · rw [if_neg hm] at e
      obtain ⟨b, x, f1, f2, f3, f4, f5⟩ := R.cell m w e
      have ne : b ≠ a := fun z => hm (R.inj m n a (by rw [← z]; exact f1) e1)
      exact ⟨b, x, f1, (upd_ne ne).trans f2, f3, f4, f5.mono le⟩
  · obtain ⟨ps, h1, h2, h3⟩ := R.tab p hp
    exact ⟨ps, h1, h2, fun pos cv e => let ⟨c, e1, e2⟩ := h3 pos cv e; ⟨c, e1, le.B _ _ e2⟩⟩
/-- the list of a tree or a cell -/
theorem Rl.getL (R : Rl K wd F cs H) {d : D} {v : V} {xs : List D} (r : Rp K wd d v) (h : getL d cs = some xs) : ∃ a vs, v = .ref a ∧ H a = some (.lst vs) ∧ RpL K wd xs vs := by
  cases d with
  | lst ds =>
    obtain ⟨a, vs, e, s, q⟩ := r
    have e2 : ds = xs := Option.some.inj h
    subst e2
    exact ⟨a, vs, e, R.b a _ s, q⟩
  | ref n =>
    obtain ⟨a, e1, e2⟩ := r
    have h : (match cs n with
      | some (.lst xs) => some xs
      | _ => none) = some xs := h
    cases hc : cs n with
    | none =>
      rw [hc] at h
      cases h
    | some o =>
      rw [hc] at h
      cases o with
      | lst ds =>
        have e3 : ds = xs := Option.some.inj h
        subst e3
        obtain ⟨a', u, f1, f2, f3, f4, ws, f5, f6⟩ := R.cell n _ hc
        have ea : a' = a := Option.some.inj (f1.symm.trans e1)
        subst ea f5
        exact ⟨a', ws, e2, f4, f6⟩
      | dic _ _ => cases h
      | ins _ _ => cases h
      | drw => cases h
      | set _ _ _ _ => cases h
      | dit _ => cases h
  | non => cases h
  | bl _ => cases h
  | int _ => cases h
  | str _ => cases h
  | tup _ => cases h
  | dic _ _ => cases h
  | scr => cases h
  | clo _ _ _ => cases h
theorem Rl.getQ (R : Rl K wd F cs H) {d : D} {v : V} {xs : List D} (r : Rp K wd d v) (h : getQ d cs = some xs) : ∃ a vs, v = .ref a ∧ (H a = some (.lst vs) ∨ SqT K H a vs) ∧ RpL K wd xs vs := by
  cases d with
  | tup ds =>
    obtain ⟨a, vs, e, s, q⟩ := r
    have e2 : ds = xs := Option.some.inj h
    subst e2
    exact ⟨a, vs, e, .inr (SqT.of (R.b a _ s)), q⟩
  | lst ds =>
    obtain ⟨a, vs, e, s, q⟩ := R.getL (d := .lst ds) r h
    exact ⟨a, vs, e, .inl s, q⟩
  | ref n =>
    obtain ⟨a, vs, e, s, q⟩ := R.getL (d := .ref n) r h
    exact ⟨a, vs, e, .inl s, q⟩
  | non => cases h
  | bl _ => cases h
  | int _ => cases h
  | str _ => cases h
  | dic _ _ => cases h
  | scr => cases h
  | clo _ _ _ => cases h
end
end G

/-! GJud: the judgements: a piece of Python and its core term. -/
namespace G
open PySem PySem.Spec L2
open Evl (Ex)

/-- slots -/
structure RS (K : PySem.W.Frag) (wd : Wd) (τ : Sl) (σ : St) : Prop where
  len : τ.length = σ.length
  at_ : ∀ i d, getV τ i = some d → ∃ v, σ[i]? = some (some v) ∧ Rp K wd d v
theorem getV_eq : ∀ (τ : Sl) (i : Nat), getV τ i = (τ[i]?).join
  | [], i => by simp [getV]
  | x :: r, 0 => by simp [getV]
  | x :: r, i + 1 => by
    show getV r i = _
    rw [getV_eq r i]
    simp
theorem RS.mono {K : PySem.W.Frag} {wd wd' : Wd} {τ : Sl} {σ : St} (h : RS K wd τ σ) (l : wd.le wd') : RS K wd' τ σ :=
  ⟨h.len, fun i d e => let ⟨v, a, b⟩ := h.at_ i d e; ⟨v, a, b.mono l⟩⟩
theorem RS.set {K : PySem.W.Frag} {wd : Wd} {τ : Sl} {σ : St} (h : RS K wd τ σ) {d : D} {v : V} (i : Nat) (r : Rp K wd d v) : RS K wd (τ.set i (some d)) (σ.set i (some v)) := by
  refine ⟨by simp [h.len], fun j e q => ?_⟩
  rw [getV_eq] at q
  by_cases hj : j = i
  · subst hj
    by_cases hl : j < τ.length
    · rw [List.getElem?_set_self hl] at q
      have : d = e := Option.some.inj q
      subst this
      exact ⟨v, List.getElem?_set_self (by rw [← h.len]; exact hl), r⟩
    · rw [List.getElem?_eq_none (by simp; omega)] at q
      cases q
  · rw [List.getElem?_set_ne (Ne.symm hj), ← getV_eq] at q
    rw [List.getElem?_set_ne (Ne.symm hj)]
    exact h.at_ j e q
/-- the same tree, told otherwise -/
theorem RS.swap {K : PySem.W.Frag} {wd : Wd} {τ : Sl} {σ : St} (h : RS K wd τ σ) {d : D} {v : V} (i : Nat) (e : σ[i]? = some (some v)) (r : Rp K wd d v) : RS K wd (τ.set i (some d)) σ := by
  have q := h.set i r
  have z : σ.set i (some v) = σ := by
    obtain ⟨hl, hv⟩ := List.getElem?_eq_some_iff.mp e
    apply List.ext_getElem?
    intro j
    by_cases hj : j = i
    · subst hj
      rw [List.getElem?_set_self hl, e]
    · rw [List.getElem?_set_ne (Ne.symm hj)]
  rw [z] at q
  exact q
/-- forgetting -/
theorem RS.drop {K : PySem.W.Frag} {wd : Wd} {τ τ' : Sl} {σ : St} (h : RS K wd τ σ) (hl : τ'.length = τ.length) (w : ∀ i d, getV τ' i = some d → getV τ i = some d) : RS K wd τ' σ :=
  ⟨hl.trans h.len, fun i d e => h.at_ i d (w i d e)⟩

/-- an error as it lies -/
def RpX (K : PySem.W.Frag) (mg : Str → Option Value) (wd : Wd) (x : Er) (cls : Value) (dd : Option Addr) : Prop :=
  ∃ C a vs, mg x.tag = some (.ref C) ∧ cls = .ref C ∧ dd = some a ∧ wd.B a = some (.xd vs) ∧ vs.map (·.1) = x.fs.map (·.1) ∧ RpL K wd (x.fs.map (·.2)) (vs.map (·.2))
/-- the errors' end: what X asks is what W asks -/
def XOk (X : Cx) (W : WX) (wd : Wd) (F : Hp) (σ : St) (P : KX) : Prop :=
  ∀ wd' x cs cls dd H, wd.le wd' → Rl X.K wd' F cs H → RpX X.K X.mg wd' x cls dd → P x cs → W cls dd σ H
theorem XOk.mono {X : Cx} {W : WX} {wd wd' : Wd} {F : Hp} {σ : St} {P : KX} (h : XOk X W wd F σ P) (l : wd.le wd') : XOk X W wd' F σ P :=
  fun wd2 x cs cls dd H l2 => h wd2 x cs cls dd H (l.trans l2)
def QOk (K : PySem.W.Frag) (wd : Wd) (F : Hp) (P : KD) (Q : VK) : Prop :=
  ∀ wd' d cs v H, wd.le wd' → Rl K wd' F cs H → Rp K wd' d v → P d cs → Q v H
theorem QOk.mono {K : PySem.W.Frag} {wd wd' : Wd} {F : Hp} {P : KD} {Q : VK} (h : QOk K wd F P Q) (l : wd.le wd') : QOk K wd' F P Q :=
  fun wd2 d cs v H l2 => h wd2 d cs v H (l.trans l2)

def RefE (X : Cx) (W : WX) (te : TE) (c : E) : Prop := ∀ wd F τ cs σ H (P : KD) (PX : KX) (Q : VK), Rl X.K wd F cs H → RS X.K wd τ σ → wpE c τ cs P PX → QOk X.K wd F P Q → XOk X W wd F σ PX → te σ H Q
def RefT (X : Cx) (W : WX) (tt : TT) (c : E) : Prop := ∀ wd F τ cs σ H (P : KD) (PX : KX) (Q : Bool → Hp → Prop), Rl X.K wd F cs H → RS X.K wd τ σ → wpE c τ cs P PX →
  (∀ wd' d cs' H', wd.le wd' → Rl X.K wd' F cs' H' → P d cs' → ∃ k, d = .bl k ∧ Q k H') → XOk X W wd F σ PX → tt σ H Q
def RefA (X : Cx) (W : WX) (ta : TA) (c : Es) : Prop := ∀ wd F τ cs σ H (P : List D → Cs → Prop) (PX : KX) (Q : List V → Hp → Prop), Rl X.K wd F cs H → RS X.K wd τ σ → wpEs c τ cs P PX →
  (∀ wd' ds cs' vs H', wd.le wd' → Rl X.K wd' F cs' H' → RpL X.K wd' ds vs → P ds cs' → Q vs H') → XOk X W wd F σ PX → ta σ H Q
/-- the ends of a statement -/
structure EOk (X : Cx) (W : WX) (wd : Wd) (F : Hp) (P : G.Ends) (Q : L2.Ends) : Prop where
  nx : ∀ wd' τ cs σ H, wd.le wd' → Rl X.K wd' F cs H → RS X.K wd' τ σ → P.nx τ cs → Q.nx σ H
  bk : ∀ wd' τ cs σ H, wd.le wd' → Rl X.K wd' F cs H → RS X.K wd' τ σ → P.bk τ cs → Q.bk σ H
  ct : ∀ wd' τ cs σ H, wd.le wd' → Rl X.K wd' F cs H → RS X.K wd' τ σ → P.ct τ cs → Q.ct σ H
  rt : ∀ wd' d cs v H, wd.le wd' → Rl X.K wd' F cs H → Rp X.K wd' d v → P.rt d cs → Q.rt v H
  ex : ∀ wd' x τ cs σ cls dd H, wd.le wd' → Rl X.K wd' F cs H → RS X.K wd' τ σ → RpX X.K X.mg wd' x cls dd → P.ex x τ cs → W cls dd σ H
theorem EOk.mono {X : Cx} {W : WX} {wd wd' : Wd} {F : Hp} {P : G.Ends} {Q : L2.Ends} (h : EOk X W wd F P Q) (l : wd.le wd') : EOk X W wd' F P Q :=
  ⟨fun a τ cs σ H k => h.nx a τ cs σ H (l.trans k), fun a τ cs σ H k => h.bk a τ cs σ H (l.trans k), fun a τ cs σ H k => h.ct a τ cs σ H (l.trans k), fun a d cs v H k => h.rt a d cs v H (l.trans k), fun a x τ cs σ cls dd H k => h.ex a x τ cs σ cls dd H (l.trans k)⟩
theorem EOk.xok {X : Cx} {W : WX} {wd : Wd} {F : Hp} {P : G.Ends} {Q : L2.Ends} (h : EOk X W wd F P Q) {τ : Sl} {σ : St} (r : RS X.K wd τ σ) : XOk X W wd F σ (fun x cs => P.ex x τ cs) :=
  fun wd' x cs cls dd H l R rx p => h.ex wd' x τ cs σ cls dd H l R (r.mono l) rx p
def RefS (X : Cx) (W : WX) (ts : TS) (c : S) : Prop := ∀ wd F τ cs σ H (P : G.Ends) (Q : L2.Ends), Rl X.K wd F cs H → RS X.K wd τ σ → wpS c τ cs P → EOk X W wd F P Q → ts Q σ H

def JE (X : Cx) (W : WX) (e : Expr) (c : E) : Prop := ∃ te, PE X e te ∧ RefE X W te c
def JT (X : Cx) (W : WX) (e : Expr) (c : E) : Prop := ∃ tt, PT X e tt ∧ RefT X W tt c
def JA (X : Cx) (W : WX) (es : List Expr) (c : Es) : Prop := ∃ ta, PA X es ta ∧ RefA X W ta c
def JS (X : Cx) (W : WX) (st : Stmt) (c : S) : Prop := ∃ ts, PS X st ts ∧ RefS X W ts c
def JSs (X : Cx) (W : WX) (st : List Stmt) (c : S) : Prop := ∃ ts, PSs X st ts ∧ RefS X W ts c

section
variable {X : Cx} {W : WX} {pos : Pos}

/-! ### names, constants -/
theorem j_v (i : Nat) {x : Str} (hN : X.N[i]? = some x := by rfl) (hv : Vis X.env.scope x := by first | exact Or.inl rfl | exact Or.inr (Or.inl rfl) | exact Or.inr (Or.inr rfl)) (hd : (x == ("__debug__" : Str)) = false := by decide)
    (hcd : (x == ("__classdict__" : Str)) = false := by decide) : JE X W (.Name x pos) (.v i) := by
  refine ⟨_, pe_var (i := i) hN hv hd hcd, fun wd F τ cs σ H P PX Q R r h q x => ?_⟩
  have h : (match getV τ i with
    | some d => P d cs
    | none => False) := h
  cases e : getV τ i with
  | none =>
    rw [e] at h
    exact h.elim
  | some d =>
    rw [e] at h
    obtain ⟨v, a, b⟩ := r.at_ i d e
    exact ⟨v, a, q wd d cs v H (Wd.le.refl _) R b h⟩
theorem j_int {i : Int} {j} : JE X W (.Constant (.int i) j pos) (.c (.int i)) := ⟨_, pe_int, fun wd F τ cs σ H P PX Q R r h q x => q wd (.int i) cs _ H (Wd.le.refl _) R rfl h⟩
theorem j_bl {b : Bool} {j} : JE X W (.Constant (.bool b) j pos) (.c (.bl b)) := ⟨_, pe_bl, fun wd F τ cs σ H P PX Q R r h q x => q wd (.bl b) cs _ H (Wd.le.refl _) R rfl h⟩
theorem j_non {j} : JE X W (.Constant .none j pos) (.c .non) := ⟨_, pe_non, fun wd F τ cs σ H P PX Q R r h q x => q wd .non cs _ H (Wd.le.refl _) R rfl h⟩
theorem j_str {s : Str} {j} : JE X W (.Constant (.str s) j pos) (.c (.str s)) := ⟨_, pe_str, fun wd F τ cs σ H P PX Q R r h q x => q wd (.str s) cs _ H (Wd.le.refl _) R rfl h⟩
/-- a module's constant -/
theorem j_glob {x : Str} {d : D} {v : V} {u : Value} (hg : Gl X x) (hm : X.mg x = some u) (r : RelV v u) (hr : ∀ wd, Rp X.K wd d v) (hd : (x == ("__debug__" : Str)) = false := by decide) : JE X W (.Name x pos) (.c d) :=
  ⟨_, pe_glob hg hm r hd, fun wd F τ cs σ H P PX Q R _ h q x => q wd _ cs _ H (Wd.le.refl _) R (hr wd) h⟩

/-! ### arguments -/
theorem ja_nil : JA X W [] .nil := ⟨_, pa_nil, fun wd F τ cs σ H P PX Q R r h q x => q wd [] cs [] H (Wd.le.refl _) R rfl h⟩
theorem ja_cons {e : Expr} {es : List Expr} {c : E} {cs : Es} (h1 : JE X W e c) (h2 : JA X W es cs) (hs : starEach (e :: es) X.env = (false, eval e X.env) :: starEach es X.env := by rfl) : JA X W (e :: es) (.cons c cs) := by
  obtain ⟨te, p1, r1⟩ := h1
  obtain ⟨ta, p2, r2⟩ := h2
  refine ⟨_, pa_cons p1 p2 hs, fun wd F τ cs σ H P PX Q R r h q x => ?_⟩
  refine r1 wd F τ cs σ H _ PX _ R r h (fun wd1 d c1 v H1 l1 R1 rv h1 => ?_) x
  refine r2 wd1 F τ c1 σ H1 _ PX _ R1 (r.mono l1) h1 (fun wd2 ds c2 vs H2 l2 R2 rvs h2 => ?_) (x.mono l1)
  exact q wd2 (d :: ds) c2 (v :: vs) H2 (l1.trans l2) R2 ⟨v, vs, rfl, rv.mono l2, rvs⟩ h2

/-! ### operations by values -/
/-- what a rule on values asks is what the core's asks -/
def Ref2 (K : PySem.W.Frag) (r : R2) (sp : Spec) : Prop := ∀ wd F cs H x y v w (P : KD) (PX : KX) (Q : VK), Rl K wd F cs H → Rp K wd x v → Rp K wd y w → sp [x, y] cs P PX → QOk K wd F P Q → r v w H Q
def RefN (K : PySem.W.Frag) (r : List V → Hp → VK → Prop) (sp : Spec) : Prop := ∀ wd F cs H ds vs (P : KD) (PX : KX) (Q : VK), Rl K wd F cs H → RpL K wd ds vs → sp ds cs P PX → QOk K wd F P Q → r vs H Q
def Ref1 (K : PySem.W.Frag) (r : V → Hp → VK → Prop) (sp : Spec) : Prop := ∀ wd F cs H x v (P : KD) (PX : KX) (Q : VK), Rl K wd F cs H → Rp K wd x v → sp [x] cs P PX → QOk K wd F P Q → r v H Q
variable {a b e : Expr} {ca cb cc : E} {sp sp' : Spec}
theorem ref_bin {r : R2} {ta tb : TE} (hr : Ref2 X.K r sp) (ha : RefE X W ta ca) (hb : RefE X W tb cb) : RefE X W (tOp r ta tb) (.app sp (.cons ca (.cons cb .nil))) := by
  intro wd F τ cs σ H P PX Q R rs h q x
  refine ha wd F τ cs σ H _ PX _ R rs h (fun wd1 d1 c1 v1 H1 l1 R1 rv1 h1 => ?_) x
  refine hb wd1 F τ c1 σ H1 _ PX _ R1 (rs.mono l1) h1 (fun wd2 d2 c2 v2 H2 l2 R2 rv2 h2 => ?_) (x.mono l1)
  exact hr wd2 F c2 H2 d1 d2 v1 v2 P PX Q R2 (rv1.mono l2) rv2 h2 (q.mono (l1.trans l2))
theorem j_op {op : Operator} {r : R2} (ho : OpR X (binaryOp op) r) (hr : Ref2 X.K r sp) (ha : JE X W a ca) (hb : JE X W b cb) : JE X W (.BinOp a op b pos) (.app sp (.cons ca (.cons cb .nil))) := by
  obtain ⟨ta, p1, r1⟩ := ha
  obtain ⟨tb, p2, r2⟩ := hb
  exact ⟨_, pe_op ho p1 p2, ref_bin hr r1 r2⟩
theorem j_un {op : UnaryOp} {r : V → Hp → VK → Prop} (ho : UnR X (unaryOp op) r) (hr : Ref1 X.K r sp) (ha : JE X W a ca) : JE X W (.UnaryOp op a pos) (.app sp (.cons ca .nil)) := by
  obtain ⟨ta, p1, r1⟩ := ha
  refine ⟨_, pe_un ho p1, fun wd F τ cs σ H P PX Q R rs h q x => ?_⟩
  refine r1 wd F τ cs σ H _ PX _ R rs h (fun wd1 d1 c1 v1 H1 l1 R1 rv1 h1 => ?_) x
  exact hr wd1 F c1 H1 d1 v1 P PX Q R1 rv1 h1 (q.mono l1)
theorem j_cmp {op : CmpOp} {r : R2} (ho : OpR X (compareOp op) r) (hr : Ref2 X.K r sp) (ha : JE X W a ca) (hb : JE X W b cb) (hm : behindInMarks op b = false) : JE X W (.Compare a [op] [b] pos) (.app sp (.cons ca (.cons cb .nil))) := by
  obtain ⟨ta, p1, r1⟩ := ha
  obtain ⟨tb, p2, r2⟩ := hb
  exact ⟨_, pe_cmpR ho p1 p2 hm, ref_bin hr r1 r2⟩
/-- a value that is a bool, as a test -/
theorem ref_test {te : TE} {c : E} (h : RefE X W te c) : RefT X W (tTest te) c := by
  intro wd F τ cs σ H P PX Q R rs h1 q x
  refine h wd F τ cs σ H _ PX _ R rs h1 (fun wd1 d1 c1 v1 H1 l1 R1 rv1 h1 => ?_) x
  obtain ⟨k, e, hp⟩ := q wd1 d1 c1 H1 l1 R1 h1
  subst e
  exact ⟨k, rv1, hp⟩
theorem jt_cmp {op : CmpOp} {r : R2} (ho : OpR X (compareOp op) r) (hr : Ref2 X.K r sp) (ha : JE X W a ca) (hb : JE X W b cb) (hm : behindInMarks op b = false) : JT X W (.Compare a [op] [b] pos) (.app sp (.cons ca (.cons cb .nil))) := by
  obtain ⟨ta, p1, r1⟩ := ha
  obtain ⟨tb, p2, r2⟩ := hb
  exact ⟨_, pt_cmpR ho p1 p2 hm, ref_test (ref_bin hr r1 r2)⟩
end
end G

/-! GRules: operators, tests, displays, subscripts, calls of built-ins. -/
namespace G
open PySem PySem.Spec L2
open Evl (Ex)

section
variable {K : PySem.W.Frag}
theorem Rp.int {wd : Wd} {i : Int} {v : V} (h : Rp K wd (.int i) v) : v = .int i := h
theorem sInt_inv {C : Int → Int → Prop} {f : Int → Int → D} {x y : D} {cs : Cs} {Q : KD} {PX : KX} (h : sInt C f [x, y] cs Q PX) : ∃ i j, x = .int i ∧ y = .int j ∧ C i j ∧ Q (f i j) cs := by
  cases x with
  | int i =>
    cases y with
    | int j => exact ⟨i, j, rfl, rfl, h.1, h.2⟩
    | _ => exact h.elim
  | _ => exact h.elim
theorem ref_int {C C' : Int → Int → Prop} {f : Int → Int → D} {g : Int → Int → V} (hC : ∀ i j, C i j → C' i j) (h : ∀ wd i j, Rp K wd (f i j) (g i j)) : Ref2 K (rI C' g) (sInt C f) := by
  intro wd F cs H x y v w P PX Q R rx ry hs q
  obtain ⟨i, j, e1, e2, hc, hp⟩ := sInt_inv hs
  subst e1 e2
  exact ⟨i, j, rx, ry, hC i j hc, q wd _ cs _ H (Wd.le.refl _) R (h wd i j) hp⟩
theorem ref_int0 {f : Int → Int → D} {g : Int → Int → V} (h : ∀ wd i j, Rp K wd (f i j) (g i j)) : Ref2 K (rI0 g) (sInt CTrue f) := by
  intro wd F cs H x y v w P PX Q R rx ry hs q
  obtain ⟨i, j, e1, e2, hc, hp⟩ := sInt_inv hs
  subst e1 e2
  exact ⟨i, j, rx, ry, q wd _ cs _ H (Wd.le.refl _) R (h wd i j) hp⟩
end
section
variable {X : Cx} {W : WX} {pos : Pos} {a b c e : Expr} {ca cb cc ce : E}

/-! ### arithmetic -/
def CMulA (i j : Int) : Prop := CMul i j ∨ CMulW i j
theorem op_mulA : OpR X (binaryOp .Mult) (rI CMulA fun i j => .int (i * j)) := by
  intro pins s σ H x y v u Q I r1 r2 h
  obtain ⟨i, j, e1, e2, hc, q⟩ := h
  rcases hc with hc | hc
  · exact op_mul pins s σ H x y v u Q I r1 r2 ⟨i, j, e1, e2, hc, q⟩
  · exact op_mulW pins s σ H x y v u Q I r1 r2 ⟨i, j, e1, e2, hc, q⟩
theorem mulA_of {i j : Int} (h : mulOk i j) : CMulA i j := by
  unfold mulOk at h
  unfold CMulA CMul CMulW
  rcases h with h | h | h
  · exact .inl (.inl h)
  · exact .inl (.inr h)
  · exact .inr h
theorem j_sub (ha : JE X W a ca) (hb : JE X W b cb) : JE X W (.BinOp a .Sub b pos) (.app sSub (.cons ca (.cons cb .nil))) := j_op op_sub (ref_int0 fun _ _ _ => rfl) ha hb
theorem j_mul (ha : JE X W a ca) (hb : JE X W b cb) : JE X W (.BinOp a .Mult b pos) (.app sMul (.cons ca (.cons cb .nil))) := j_op op_mulA (ref_int (fun _ _ h => mulA_of h) fun _ _ _ => rfl) ha hb
theorem j_div (ha : JE X W a ca) (hb : JE X W b cb) : JE X W (.BinOp a .FloorDiv b pos) (.app sDiv (.cons ca (.cons cb .nil))) := j_op op_fdivW (ref_int (C' := CDivW) (fun _ _ h => h) fun _ _ _ => rfl) ha hb
theorem j_mod (ha : JE X W a ca) (hb : JE X W b cb) : JE X W (.BinOp a .Mod b pos) (.app sMod (.cons ca (.cons cb .nil))) := j_op op_mod (ref_int (fun _ _ h => h) fun _ _ _ => rfl) ha hb
theorem j_pow (ha : JE X W a ca) (hb : JE X W b cb) : JE X W (.BinOp a .Pow b pos) (.app sPow (.cons ca (.cons cb .nil))) := j_op op_pow (ref_int (C' := CPow) (fun _ _ h => h) fun _ _ _ => rfl) ha hb
theorem j_neg (ha : JE X W a ca) : JE X W (.UnaryOp .USub a pos) (.app sNeg (.cons ca .nil)) := by
  refine j_un un_neg ?_ ha
  intro wd F cs H x v P PX Q R rx hs q
  cases x with
  | int i => exact ⟨i, rx, q wd (.int (-i)) cs _ H (Wd.le.refl _) R rfl hs⟩
  | _ => exact hs.elim
theorem sizeL : sizeLine = lim := sizeLine_eq
end
end G

namespace G
open PySem PySem.Spec L2
open Evl (Ex)
section
variable {K : PySem.W.Frag} {wd : Wd} {F H : Hp} {cs : Cs}
/-- a new list in H: as a tree -/
theorem Rl.lst (R : Rl K wd F cs H) {p : Addr} (hp : H p = none) {ds : List D} {vs : List V} (r : RpL K wd ds vs) :
    ∃ wd', wd.le wd' ∧ Rl K wd' F cs (upd H p (.lst vs)) ∧ Rp K wd' (.lst ds) (.ref p) := by
  obtain ⟨R', le⟩ := R.new hp (.lst vs)
  exact ⟨_, le, R', p, vs, rfl, upd_same, RpL.mono le _ _ r⟩
theorem Rl.tup (R : Rl K wd F cs H) {p : Addr} (hp : H p = none) {ds : List D} {vs : List V} (r : RpL K wd ds vs) :
    ∃ wd', wd.le wd' ∧ Rl K wd' F cs (upd H p (.tup vs)) ∧ Rp K wd' (.tup ds) (.ref p) := by
  obtain ⟨R', le⟩ := R.new hp (.tup vs)
  exact ⟨_, le, R', p, vs, rfl, upd_same, RpL.mono le _ _ r⟩
/-- .. as a cell -/
theorem Rl.cellL (R : Rl K wd F cs H) {p : Addr} (hp : H p = none) {ds : List D} {vs : List V} (r : RpL K wd ds vs) :
    ∃ n wd', cs n = none ∧ wd.le wd' ∧ Rl K wd' F (put cs n (.lst ds)) (upd H p (.lst vs)) ∧ Rp K wd' (.ref n) (.ref p) := by
  obtain ⟨n, wd', hn, le, hr, R'⟩ := R.cellNew hp (o := .lst ds) ⟨vs, rfl, r⟩
  exact ⟨n, wd', hn, le, R', p, hr, rfl⟩
end
section
variable {X : Cx} {W : WX} {pos : Pos} {a b c e : Expr} {ca cb cc ce : E}
/-! ### + -/
def rAddA (K : PySem.W.Frag) : R2 := fun x y H Q => ((rI0 (fun i j => .int (i + j)) x y H Q ∨ (∃ i j, x = .str i ∧ y = .str j ∧ i.length + j.length ≤ sizeLine ∧ Q (.str (i ++ j)) H)) ∨ rCat x y H Q) ∨ rCatT K x y H Q
theorem op_addA : OpR X (binaryOp .Add) (rAddA X.K) := ((op_add.or op_add_str).or op_cat).or op_catT
theorem ref_add : Ref2 X.K (rAddA X.K) sAdd := by
  intro wd F cs H x y v w P PX Q R rx ry hs q
  have lists : ∀ {x y}, Rp X.K wd x v → Rp X.K wd y w → (match getL x cs, getL y cs with
    | some a, some b => a.length + b.length ≤ lim ∧ P (.lst (a ++ b)) cs
    | _, _ => False) → rCat v w H Q := fun {x y} rx ry h => by
    cases ex : getL x cs with
    | none =>
      rw [ex] at h
      exact h.elim
    | some xs =>
      cases ey : getL y cs with
      | none =>
        rw [ex, ey] at h
        exact h.elim
      | some ys =>
        rw [ex, ey] at h
        obtain ⟨a1, vs, e1, h1, r1⟩ := R.getL rx ex
        obtain ⟨a2, ws, e2, h2, r2⟩ := R.getL ry ey
        refine ⟨a1, a2, vs, ws, e1, e2, h1, h2, by rw [r1.length, r2.length, sizeL]; exact h.1, fun p hp => ?_⟩
        obtain ⟨wd', le, R', rp⟩ := R.lst hp (r1.append r2)
        exact q wd' _ cs _ _ le R' rp h.2
  cases x with
  | int i =>
    cases y with
    | int j => exact .inl (.inl (.inl ⟨i, j, rx, ry, q wd (.int (i + j)) cs _ H (Wd.le.refl _) R rfl hs⟩))
    | _ => exact hs.elim
  | str i =>
    cases y with
    | str j => exact .inl (.inl (.inr ⟨i, j, rx, ry, by rw [sizeL]; exact hs.1, q wd (.str (i ++ j)) cs _ H (Wd.le.refl _) R rfl hs.2⟩))
    | _ => exact hs.elim
  | tup xs =>
    cases y with
    | tup ys =>
      obtain ⟨a1, vs, e1, h1, r1⟩ := rx
      obtain ⟨a2, ws, e2, h2, r2⟩ := ry
      have ne : vs ≠ [] := fun z => hs.1 (List.length_eq_zero_iff.mp (by rw [← r1.length, z]; rfl))
      refine .inr ⟨a1, a2, vs, ws, e1, e2, SqT.of (R.b _ _ h1), SqT.of (R.b _ _ h2), ne, by rw [r1.length, r2.length, sizeL]; exact hs.2.1, fun z => ?_, fun z p hp => ?_⟩
      · have ey : ys = [] := List.length_eq_zero_iff.mp (by rw [← r2.length, z]; rfl)
        have e3 := hs.2.2
        rw [ey, List.append_nil] at e3
        have := q wd (.tup xs) cs v H (Wd.le.refl _) R ⟨a1, vs, e1, h1, r1⟩ e3
        rw [e1] at this
        exact this
      · obtain ⟨wd', le, R', rp⟩ := R.tup hp (r1.append r2)
        exact q wd' _ cs _ _ le R' rp hs.2.2
    | _ => exact hs.elim
  | lst xs => exact .inl (.inr (lists (x := .lst xs) rx ry (by cases y <;> exact hs)))
  | ref n => exact .inl (.inr (lists (x := .ref n) rx ry (by cases y <;> exact hs)))
  | _ => exact absurd hs (by cases y <;> exact fun z => z)
theorem j_add (ha : JE X W a ca) (hb : JE X W b cb) : JE X W (.BinOp a .Add b pos) (.app sAdd (.cons ca (.cons cb .nil))) := j_op op_addA ref_add ha hb

/-! ### comparisons of ints -/
theorem jt_lt (ha : JE X W a ca) (hb : JE X W b cb) : JT X W (.Compare a [.Lt] [b] pos) (.app sLt (.cons ca (.cons cb .nil))) := jt_cmp op_lt (ref_int0 fun _ _ _ => rfl) ha hb (nomark _)
theorem jt_gt (ha : JE X W a ca) (hb : JE X W b cb) : JT X W (.Compare a [.Gt] [b] pos) (.app sGt (.cons ca (.cons cb .nil))) := jt_cmp op_gt (ref_int0 fun _ _ _ => rfl) ha hb (nomark _)
theorem jt_ge (ha : JE X W a ca) (hb : JE X W b cb) : JT X W (.Compare a [.GtE] [b] pos) (.app sGe (.cons ca (.cons cb .nil))) := jt_cmp op_ge (ref_int0 fun _ _ _ => rfl) ha hb (nomark _)

/-! ### == of data -/
mutual
def toP : D → PyData
  | .non => .none
  | .bl b => .bool b
  | .int i => .int i
  | .str s => .str s
  | .tup xs => .tuple (toPs xs)
  | .lst xs => .list (toPs xs)
  | .dic _ _ => .none
  | .ref _ => .none
  | .scr => .none
  | .clo _ _ _ => .none
def toPs : List D → List PyData
  | [] => []
  | x :: xs => toP x :: toPs xs
end
theorem pur_purs {b : Bool} {k : Nat} {xs : List D} (h : (b && purs k xs) = true) : purs k xs = true := by
  rw [Bool.and_eq_true] at h
  exact h.2
mutual
theorem pur_lay : ∀ (k : Nat) (d : D), pur k d = true → (toP d).canLay0 = true ∧ (toP d).depth ≤ k
  | k, .non, _ => ⟨rfl, Nat.zero_le _⟩
  | k, .bl _, _ => ⟨rfl, Nat.zero_le _⟩
  | k, .int _, _ => ⟨rfl, Nat.zero_le _⟩
  | k, .str s, h => by
    have h : strOk s = true := by cases k <;> exact h
    exact ⟨h, Nat.zero_le _⟩
  | k + 1, .lst xs, h => by
    have h : purs k xs = true := pur_purs h
    obtain ⟨h1, h2⟩ := purs_lay k xs h
    exact ⟨by simpa [toP, PyData.canLay0] using h1, by simp only [toP, PyData.depth]; omega⟩
  | k + 1, .tup xs, h => by
    have h : purs k xs = true := pur_purs h
    obtain ⟨h1, h2⟩ := purs_lay k xs h
    exact ⟨by simpa [toP, PyData.canLay0] using h1, by simp only [toP, PyData.depth]; omega⟩
  | 0, .lst xs, h => by cases h
  | 0, .tup xs, h => by cases h
  | k, .dic _ _, h => by cases k <;> cases h
  | k, .ref _, h => by cases k <;> cases h
  | k, .scr, h => by cases k <;> cases h
  | k, .clo _ _ _, h => by cases k <;> cases h
theorem purs_lay : ∀ (k : Nat) (ds : List D), purs k ds = true → PyData.canLayAll0 (toPs ds) = true ∧ PyData.depthAll (toPs ds) ≤ k
  | k, [], _ => ⟨rfl, Nat.zero_le _⟩
  | k, d :: ds, h => by
    have h : (pur k d && purs k ds) = true := h
    rw [Bool.and_eq_true] at h
    obtain ⟨h1, h2⟩ := pur_lay k d h.1
    obtain ⟨h3, h4⟩ := purs_lay k ds h.2
    exact ⟨by simp [toPs, PyData.canLayAll0, h1, h3], by simp only [toPs, PyData.depthAll]; omega⟩
end
theorem pur_shaped {d : D} (h : pur 64 d = true) : SeqAt.shaped (toP d) = true := by
  obtain ⟨h1, h2⟩ := pur_lay 64 d h
  unfold SeqAt.shaped
  rw [h1, decide_eq_true h2]
  rfl
mutual
theorem eqD_eqv : ∀ (k j : Nat) (x y : D), pur k x = true → pur j y = true → eqD x y = PyData.eqv (toP x) (toP y)
  | k, j, .non, y, _, hy => by cases y <;> first | (cases j <;> cases hy; done) | simp [eqD, toP, PyData.eqv]
  | k, j, .bl a, y, _, hy => by cases y <;> first | (cases j <;> cases hy; done) | simp [eqD, toP, PyData.eqv]
  | k, j, .int a, y, _, hy => by cases y <;> first | (cases j <;> cases hy; done) | simp [eqD, toP, PyData.eqv]
  | k, j, .str a, y, _, hy => by cases y <;> first | (cases j <;> cases hy; done) | simp [eqD, toP, PyData.eqv]
  | k + 1, j, .lst xs, y, hx, hy => by
    have hx : purs k xs = true := pur_purs hx
    cases y with
    | lst ys =>
      cases j with
      | zero => cases hy
      | succ j =>
        have hy : purs j ys = true := pur_purs hy
        simp only [eqD, toP, PyData.eqv]
        exact eqDs_eqv k j xs ys hx hy
    | _ => first | (cases j <;> cases hy; done) | simp [eqD, toP, PyData.eqv]
  | k + 1, j, .tup xs, y, hx, hy => by
    have hx : purs k xs = true := pur_purs hx
    cases y with
    | tup ys =>
      cases j with
      | zero => cases hy
      | succ j =>
        have hy : purs j ys = true := pur_purs hy
        simp only [eqD, toP, PyData.eqv]
        exact eqDs_eqv k j xs ys hx hy
    | _ => first | (cases j <;> cases hy; done) | simp [eqD, toP, PyData.eqv]
  | 0, _, .lst xs, _, h, _ => by cases h
  | 0, _, .tup xs, _, h, _ => by cases h
  | k, _, .dic _ _, _, h, _ => by cases k <;> cases h
  | k, _, .ref _, _, h, _ => by cases k <;> cases h
  | k, _, .scr, _, h, _ => by cases k <;> cases h
  | k, _, .clo _ _ _, _, h, _ => by cases k <;> cases h
theorem eqDs_eqv : ∀ (k j : Nat) (xs ys : List D), purs k xs = true → purs j ys = true → eqDs xs ys = PyData.eqvAll (toPs xs) (toPs ys)
  | k, j, [], [], _, _ => rfl
  | k, j, [], _ :: _, _, _ => rfl
  | k, j, _ :: _, [], _, _ => rfl
  | k, j, x :: xs, y :: ys, hx, hy => by
    have hx : (pur k x && purs k xs) = true := hx
    have hy : (pur j y && purs j ys) = true := hy
    rw [Bool.and_eq_true] at hx hy
    simp only [eqDs, toPs, PyData.eqvAll, eqD_eqv k j x y hx.1 hy.1, eqDs_eqv k j xs ys hx.2 hy.2]
end
mutual
theorem dp_of {K : PySem.W.Frag} {wd : Wd} {H : Hp} (b : Ex wd.B H) : ∀ (k : Nat) (d : D) (v : V), pur k d = true → Rp K wd d v → Dp K H v (toP d)
  | k, .non, v, _, r => by cases (show v = _ from r); exact .non
  | k, .bl x, v, _, r => by cases (show v = _ from r); exact .bl x
  | k, .int x, v, _, r => by cases (show v = _ from r); exact .int x
  | k, .str x, v, _, r => by cases (show v = _ from r); exact .str x
  | k + 1, .lst xs, v, h, r => by
    obtain ⟨a, vs, e, s, q⟩ := r
    subst e
    exact .lst (SqL.of (b a _ s)) (dps_of b k xs vs (pur_purs h) q)
  | k + 1, .tup xs, v, h, r => by
    obtain ⟨a, vs, e, s, q⟩ := r
    subst e
    exact .tup (SqT.of (b _ _ s)) (dps_of b k xs vs (pur_purs h) q)
  | 0, .lst xs, _, h, _ => by cases h
  | 0, .tup xs, _, h, _ => by cases h
  | k, .dic _ _, _, h, _ => by cases k <;> cases h
  | k, .ref _, _, h, _ => by cases k <;> cases h
  | k, .scr, _, h, _ => by cases k <;> cases h
  | k, .clo _ _ _, _, h, _ => by cases k <;> cases h
theorem dps_of {K : PySem.W.Frag} {wd : Wd} {H : Hp} (b : Ex wd.B H) : ∀ (k : Nat) (ds : List D) (vs : List V), purs k ds = true → RpL K wd ds vs → DpAll K H vs (toPs ds)
  | k, [], vs, _, r => by
    cases (show vs = _ from r)
    exact .nil
  | k, d :: ds, vs, h, r => by
    have h : (pur k d && purs k ds) = true := h
    rw [Bool.and_eq_true] at h
    obtain ⟨v, r', e, r1, r2⟩ := r
    subst e
    exact .cons (dp_of b k d v h.1 r1) (dps_of b k ds r' h.2 r2)
end
theorem deref_none {cs : Cs} {n : Nat} (h : getL (.ref n) cs = none) : deref cs (.ref n) = .ref n := by
  have h : (match cs n with
      | some (.lst xs) => some xs
      | _ => none) = none := h
  show (match cs n with
      | some (.lst xs) => D.lst xs
      | _ => .ref n) = .ref n
  split at h <;> simp_all
theorem deref_some {cs : Cs} {n : Nat} {xs : List D} (h : getL (.ref n) cs = some xs) : deref cs (.ref n) = .lst xs := by
  have h : (match cs n with
      | some (.lst xs) => some xs
      | _ => none) = some xs := h
  show (match cs n with
      | some (.lst xs) => D.lst xs
      | _ => .ref n) = .lst xs
  split at h <;> simp_all
theorem dp_deref {K : PySem.W.Frag} {wd : Wd} {F H : Hp} {cs : Cs} (R : Rl K wd F cs H) {d : D} {v : V} (h : pur 64 (deref cs d) = true) (r : Rp K wd d v) : Dp K H v (toP (deref cs d)) := by
  cases d with
  | ref n =>
    cases hc : getL (.ref n) cs with
    | none =>
      rw [deref_none hc] at h
      cases h
    | some xs =>
      obtain ⟨a, vs, e1, h1, r1⟩ := R.getL (d := .ref n) r hc
      rw [deref_some hc] at h ⊢
      subst e1
      exact .lst (SqL.of h1) (dps_of R.b 63 xs vs (pur_purs h) r1)
  | _ => exact dp_of R.b 64 _ v h r
theorem ref_eq : Ref2 X.K (rEqD X.K) sEq := by
  intro wd F cs H x y v w P PX Q R rx ry hs q
  obtain ⟨h1, h2, h3⟩ := hs
  refine ⟨_, _, dp_deref R h1 rx, dp_deref R h2 ry, pur_shaped h1, pur_shaped h2, ?_⟩
  rw [← eqD_eqv 64 64 _ _ h1 h2]
  exact q wd (.bl _) cs _ H (Wd.le.refl _) R rfl h3
theorem ref_ne : Ref2 X.K (rNeD X.K) sNe := by
  intro wd F cs H x y v w P PX Q R rx ry hs q
  obtain ⟨h1, h2, h3⟩ := hs
  refine ⟨_, _, dp_deref R h1 rx, dp_deref R h2 ry, pur_shaped h1, pur_shaped h2, ?_⟩
  rw [← eqD_eqv 64 64 _ _ h1 h2]
  exact q wd (.bl _) cs _ H (Wd.le.refl _) R rfl h3
theorem j_eq (hu : X.A.units + 64 < cLine) (ha : JE X W a ca) (hb : JE X W b cb) : JE X W (.Compare a [.Eq] [b] pos) (.app sEq (.cons ca (.cons cb .nil))) := j_cmp (op_eqD hu) ref_eq ha hb (nomark _)
theorem jt_eq (hu : X.A.units + 64 < cLine) (ha : JE X W a ca) (hb : JE X W b cb) : JT X W (.Compare a [.Eq] [b] pos) (.app sEq (.cons ca (.cons cb .nil))) := jt_cmp (op_eqD hu) ref_eq ha hb (nomark _)
theorem jt_ne (hu : X.A.units + 64 < cLine) (ha : JE X W a ca) (hb : JE X W b cb) : JT X W (.Compare a [.NotEq] [b] pos) (.app sNe (.cons ca (.cons cb .nil))) := jt_cmp (op_neD hu) ref_ne ha hb (nomark _)
end
end G

namespace G
open PySem PySem.Spec L2
open Evl (Ex)
section
variable {X : Cx} {W : WX} {pos : Pos} {a b c e : Expr} {ca cb cc ce : E} {K : PySem.W.Frag}

/-! ### None; in -/
theorem isN_V {wd : Wd} {d : D} {v : V} (r : Rp K wd d v) : isN d = decide (v = .non) := by
  cases d with
  | non => cases (show v = _ from r); rfl
  | bl x => cases (show v = _ from r); rfl
  | int x => cases (show v = _ from r); rfl
  | str x => cases (show v = _ from r); rfl
  | tup ds => obtain ⟨a, _, e, _⟩ := r; subst e; rfl
  | lst ds => obtain ⟨a, _, e, _⟩ := r; subst e; rfl
  | dic _ _ => obtain ⟨a, _, e, _⟩ := r; subst e; rfl
  | ref n => obtain ⟨a, _, e⟩ := r; subst e; rfl
  | scr => obtain ⟨a, _, e, _⟩ := r; subst e; rfl
  | clo _ _ _ => obtain ⟨a, _, _, e, _⟩ := r; subst e; rfl
theorem ref_isN : Ref2 X.K (fun x y H Q => y = .non ∧ Q (.bl (decide (x = .non))) H) sIsN := by
  intro wd F cs H x y v w P PX Q R rx ry hs q
  cases y with
  | non =>
    have hs : P (.bl (isN x)) cs := hs
    rw [isN_V rx] at hs
    exact ⟨ry, q wd (.bl _) cs _ H (Wd.le.refl _) R rfl hs⟩
  | _ => exact hs.elim
theorem j_isN (ha : JE X W a ca) (hb : JE X W b cb) : JE X W (.Compare a [.Is] [b] pos) (.app sIsN (.cons ca (.cons cb .nil))) := j_cmp op_isN ref_isN ha hb (nomark _)
theorem jt_isN (ha : JE X W a ca) (hb : JE X W b cb) : JT X W (.Compare a [.Is] [b] pos) (.app sIsN (.cons ca (.cons cb .nil))) := jt_cmp op_isN ref_isN ha hb (nomark _)
theorem flat_V {wd : Wd} {d : D} {v : V} (r : Rp K wd d v) (h : flat d = true) : flatV v = true := by
  cases d with
  | non => cases (show v = _ from r); rfl
  | bl x => cases (show v = _ from r); rfl
  | int x => cases (show v = _ from r); rfl
  | str x => cases (show v = _ from r); rfl
  | _ => cases h
theorem flats_V {wd : Wd} : ∀ {ds : List D} {vs : List V}, RpL K wd ds vs → ds.all flat = true → vs.all flatV = true
  | [], vs, r, _ => by cases (show vs = _ from r); rfl
  | d :: ds, vs, r, h => by
    obtain ⟨v, r', e, r1, r2⟩ := r
    subst e
    rw [List.all_cons, Bool.and_eq_true] at h ⊢
    exact ⟨flat_V r1 h.1, flats_V r2 h.2⟩
theorem eqD_V {wd : Wd} {d d' : D} {v v' : V} (r : Rp K wd d v) (r' : Rp K wd d' v') (h : flat d = true) (h' : flat d' = true) : eqD d d' = eqV v v' := by
  cases d with
  | non => cases (show v = _ from r); cases d' <;> first | (cases (show v' = _ from r'); rfl) | cases h'
  | bl x => cases (show v = _ from r); cases d' <;> first | (cases (show v' = _ from r'); rfl) | cases h'
  | int x => cases (show v = _ from r); cases d' <;> first | (cases (show v' = _ from r'); rfl) | cases h'
  | str x => cases (show v = _ from r); cases d' <;> first | (cases (show v' = _ from r'); rfl) | cases h'
  | _ => cases h
theorem inD_V {wd : Wd} {d : D} {v : V} (r : Rp K wd d v) (h : flat d = true) : ∀ {ds : List D} {vs : List V}, RpL K wd ds vs → ds.all flat = true → inD d ds = inV v vs
  | [], vs, q, _ => by cases (show vs = _ from q); rfl
  | x :: ds, vs, q, z => by
    obtain ⟨v', r', e, r1, r2⟩ := q
    subst e
    rw [List.all_cons, Bool.and_eq_true] at z
    have := inD_V r h r2 z.2
    unfold inD inV at this ⊢
    rw [List.any_cons, List.any_cons, this, eqD_V r1 r z.1 h]
theorem ref_in : Ref2 X.K (rIn X.K false) sIn := by
  intro wd F cs H x y v w P PX Q R rx ry hs q
  have hs : (match getQ y cs with
    | some xs => flat x = true ∧ xs.all flat = true ∧ P (.bl (inD x xs)) cs
    | none => False) := hs
  cases ey : getQ y cs with
  | none => rw [ey] at hs; exact hs.elim
  | some xs =>
    rw [ey] at hs
    obtain ⟨h1, h2, h3⟩ := hs
    obtain ⟨a, vs, e, s, r⟩ := R.getQ ry ey
    refine ⟨a, vs, e, s.imp SqL.of id, flat_V rx h1, flats_V r h2, ?_⟩
    rw [inD_V rx h1 r h2] at h3
    exact q wd (.bl _) cs _ H (Wd.le.refl _) R rfl h3
theorem ref_notIn : Ref2 X.K (rIn X.K true) sNotIn := by
  intro wd F cs H x y v w P PX Q R rx ry hs q
  have hs : (match getQ y cs with
    | some xs => flat x = true ∧ xs.all flat = true ∧ P (.bl (!inD x xs)) cs
    | none => False) := hs
  cases ey : getQ y cs with
  | none => rw [ey] at hs; exact hs.elim
  | some xs =>
    rw [ey] at hs
    obtain ⟨h1, h2, h3⟩ := hs
    obtain ⟨a, vs, e, s, r⟩ := R.getQ ry ey
    refine ⟨a, vs, e, s.imp SqL.of id, flat_V rx h1, flats_V r h2, ?_⟩
    rw [inD_V rx h1 r h2] at h3
    exact q wd (.bl _) cs _ H (Wd.le.refl _) R rfl h3
theorem jt_in (ha : JE X W a ca) (hb : JE X W b cb) (hm : behindInMarks .In b = false := by rfl) : JT X W (.Compare a [.In] [b] pos) (.app sIn (.cons ca (.cons cb .nil))) := jt_cmp op_in_seq ref_in ha hb hm
theorem jt_notIn (ha : JE X W a ca) (hb : JE X W b cb) (hm : behindInMarks .NotIn b = false := by rfl) : JT X W (.Compare a [.NotIn] [b] pos) (.app sNotIn (.cons ca (.cons cb .nil))) := jt_cmp op_notIn_seq ref_notIn ha hb hm

/-! ### items -/
theorem ix_V {wd : Wd} {ds : List D} {vs : List V} {i : Int} {d : D} (r : RpL K wd ds vs) (h : ix ds i = some d) : ∃ v, atI vs i = some v ∧ Rp K wd d v := by
  unfold ix at h
  cases e : ixn ds.length i with
  | none =>
    rw [e] at h
    cases h
  | some j =>
    rw [e] at h
    have h : ds[j]? = some d := h
    obtain ⟨v, h1, h2⟩ := r.get h
    refine ⟨v, ?_, h2⟩
    have e2 : ixN vs.length i = some j := by rw [r.length]; exact e
    unfold atI
    rw [e2]
    exact h1
def rIxA (K : PySem.W.Frag) : R2 := fun x y H Q => rIxL K x y H Q ∨ rIxT K x y H Q
theorem ref_ix : Ref2 X.K (rIxA X.K) sIx := by
  intro wd F cs H x y v w P PX Q R rx ry hs q
  cases y with
  | int i =>
    have hs : (match getQ x cs with
      | some xs => match ix xs i with
        | some d => P d cs
        | none => False
      | none => False) := by cases x <;> exact hs
    cases ex : getQ x cs with
    | none => rw [ex] at hs; exact hs.elim
    | some xs =>
      rw [ex] at hs
      have hs : (match ix xs i with
        | some d => P d cs
        | none => False) := hs
      cases ed : ix xs i with
      | none => rw [ed] at hs; exact hs.elim
      | some d =>
        rw [ed] at hs
        obtain ⟨a, vs, e, s, r⟩ := R.getQ rx ex
        obtain ⟨z, hz, rz⟩ := ix_V r ed
        have fin := q wd d cs z H (Wd.le.refl _) R rz hs
        rcases s with s | s
        · exact .inl ⟨a, vs, i, z, e, ry, SqL.of s, hz, fin⟩
        · exact .inr ⟨a, vs, i, z, e, ry, s, hz, fin⟩
  | _ => exact absurd hs (by cases x <;> exact fun z => z)
theorem j_ix (ha : JE X W a ca) (hb : JE X W b cb) (hs : PlainIx b := by exact fun _ _ => rfl) : JE X W (.Subscript a b pos) (.app sIx (.cons ca (.cons cb .nil))) := by
  obtain ⟨ta, p1, r1⟩ := ha
  obtain ⟨tb, p2, r2⟩ := hb
  exact ⟨_, pe_ix (ix_list.or ix_tup) p1 p2 hs, ref_bin ref_ix r1 r2⟩

/-! ### displays -/
variable {es : List Expr} {ces : Es}
theorem j_list {k : Nat} (h : JA X W es ces) : JE X W (.List es pos) (.app sList ces) := by
  obtain ⟨ta, p1, r1⟩ := h
  refine ⟨_, pe_lst p1, fun wd F τ cs σ H P PX Q R rs h q x => ?_⟩
  refine r1 wd F τ cs σ H _ PX _ R rs h (fun wd1 ds c1 vs H1 l1 R1 rv h1 => ⟨by rw [rv.length, sizeL]; exact h1.1, fun p hp => ?_⟩) x
  obtain ⟨wd2, l2, R2, r2⟩ := R1.lst hp rv
  exact q wd2 _ c1 _ _ (l1.trans l2) R2 r2 h1.2
theorem j_listM (h : JA X W es ces) : JE X W (.List es pos) (.app sListM ces) := by
  obtain ⟨ta, p1, r1⟩ := h
  refine ⟨_, pe_lst p1, fun wd F τ cs σ H P PX Q R rs h q x => ?_⟩
  refine r1 wd F τ cs σ H _ PX _ R rs h (fun wd1 ds c1 vs H1 l1 R1 rv h1 => ⟨by rw [rv.length, sizeL]; exact h1.1, fun p hp => ?_⟩) x
  obtain ⟨n, wd2, hn, l2, R2, r2⟩ := R1.cellL hp rv
  exact q wd2 _ _ _ _ (l1.trans l2) R2 r2 (h1.2 n hn)
theorem j_tup {k : Nat} (h : JA X W es ces) : JE X W (.Tuple es k pos) (.app sTup ces) := by
  obtain ⟨ta, p1, r1⟩ := h
  refine ⟨_, pe_tup p1, fun wd F τ cs σ H P PX Q R rs h q x => ?_⟩
  refine r1 wd F τ cs σ H _ PX _ R rs h (fun wd1 ds c1 vs H1 l1 R1 rv h1 => ⟨by rw [rv.length, sizeL]; exact h1.1, fun p hp => ?_⟩) x
  obtain ⟨wd2, l2, R2, r2⟩ := R1.tup hp rv
  exact q wd2 _ c1 _ _ (l1.trans l2) R2 r2 h1.2

/-! ### built-ins -/
theorem j_bltn {r : List V → Hp → VK → Prop} {sp : Spec} {id : String} {x : Str} {p : Pos} (hc : CallR X (.builtin id) r) (hr : RefN X.K r sp) (hg : Gl X x) (hm : X.mg x = none) (hv : bootBuiltins x = some (.builtin id)) (ha : JA X W (e :: es) ces)
    (hn : x ≠ "__name__" := by decide) (hdb : (x == ("__debug__" : Str)) = false := by decide) (he : starEach (e :: es) X.env = (false, eval e X.env) :: starEach es X.env := by rfl) (hpl : (backTo pos (starEach es X.env)).any (·.1) = false := by rfl) :
    JE X W (.Call (.Name x p) (e :: es) [] pos) (.app sp ces) := by
  obtain ⟨ta, p1, r1⟩ := ha
  refine ⟨_, pe_callB hc hg hm hv p1 hn hdb he hpl, fun wd F τ cs σ H P PX Q R rs h q x => ?_⟩
  refine r1 wd F τ cs σ H _ PX _ R rs h (fun wd1 ds c1 vs H1 l1 R1 rv h1 => ?_) x
  exact hr wd1 F c1 H1 ds vs P PX Q R1 rv h1 (q.mono l1)
theorem j_bltnTy {r : List V → Hp → VK → Prop} {sp : Spec} {T : String} {x : Str} {p : Pos} (hc : CallR X (.type T) r) (hr : RefN X.K r sp) (hg : Gl X x) (hm : X.mg x = none) (hv : bootBuiltins x = some (.type T)) (ha : JA X W (e :: es) ces)
    (hn : x ≠ "__name__" := by decide) (hdb : (x == ("__debug__" : Str)) = false := by decide) (he : starEach (e :: es) X.env = (false, eval e X.env) :: starEach es X.env := by rfl) (hpl : (backTo pos (starEach es X.env)).any (·.1) = false := by rfl) :
    JE X W (.Call (.Name x p) (e :: es) [] pos) (.app sp ces) := by
  obtain ⟨ta, p1, r1⟩ := ha
  refine ⟨_, pe_callTy hc hg hm hv p1 hn hdb he hpl, fun wd F τ cs σ H P PX Q R rs h q x => ?_⟩
  refine r1 wd F τ cs σ H _ PX _ R rs h (fun wd1 ds c1 vs H1 l1 R1 rv h1 => ?_) x
  exact hr wd1 F c1 H1 ds vs P PX Q R1 rv h1 (q.mono l1)
theorem refn_len : RefN X.K (fun xs H Q => ∃ x n, xs = [x] ∧ LenV X.K x H n ∧ Q (.int n) H) sLen := by
  intro wd F cs H ds vs P PX Q R r hs q
  match ds, hs with
  | [d], hs =>
    obtain ⟨v, e, rv⟩ := r.one
    have go : (match getQ d cs with
        | some xs => P (.int xs.length) cs
        | none => False) → ∃ x n, vs = [x] ∧ LenV X.K x H n ∧ Q (.int n) H := fun h => by
      cases ex : getQ d cs with
      | none => rw [ex] at h; exact h.elim
      | some xs =>
        rw [ex] at h
        obtain ⟨a, ws, e2, s, r2⟩ := R.getQ rv ex
        subst e2
        refine ⟨.ref a, xs.length, e, ?_, q wd (.int _) cs _ H (Wd.le.refl _) R rfl h⟩
        rcases s with s | s
        · exact .inl ⟨ws, SqL.of s, r2.length.symm⟩
        · exact .inr ⟨ws, s, r2.length.symm⟩
    cases d with
    | str s =>
      cases (show v = _ from rv)
      exact ⟨.str s, s.length, e, ⟨by rw [sizeL]; exact hs.1, rfl⟩, q wd (.int _) cs _ H (Wd.le.refl _) R rfl hs.2⟩
    | tup xs => exact go hs
    | lst xs => exact go hs
    | ref n => exact go hs
    | _ => exact hs.elim
  | [], hs => exact hs.elim
  | _ :: _ :: _, hs => exact absurd hs (by intro z; first | exact z | (revert z; unfold sLen; simp))
theorem j_len {p : Pos} (hg : Gl X "len") (hm : X.mg "len" = none) (ha : JE X W a ca) (h1 : starEach [a] X.env = (false, eval a X.env) :: starEach [] X.env := by rfl) : JE X W (.Call (.Name "len" p) [a] [] pos) (.app sLen (.cons ca .nil)) :=
  j_bltn call_len refn_len hg hm PySem.boot_len (ja_cons ha ja_nil h1) (he := h1) (hpl := rfl)
end
end G

namespace G
open PySem PySem.Spec L2
open Evl (Ex)
section
variable {X : Cx} {W : WX} {pos : Pos} {a b c e : Expr} {ca cb cc ce : E} {K : PySem.W.Frag} {p : Pos}

theorem boot_listG : bootBuiltins "list" = some (.type "list") := by decide +kernel
theorem boot_tupleG : bootBuiltins "tuple" = some (.type "tuple") := by decide +kernel
theorem boot_intG : bootBuiltins "int" = some (.type "int") := by decide +kernel
theorem boot_boolG : bootBuiltins "bool" = some (.type "bool") := by decide +kernel
theorem boot_strG : bootBuiltins "str" = some (.type "str") := by decide +kernel
/-! ### list(..), tuple(..) -/
theorem refn_one {r : List V → Hp → VK → Prop} {f : D → Cs → KD → Prop} (hf : ∀ wd F cs H d v (P : KD) (Q : VK), Rl K wd F cs H → Rp K wd d v → f d cs P → QOk K wd F P Q → r [v] H Q) : RefN K r (fun ds cs Q _ => match ds with
    | [d] => f d cs Q
    | _ => False) := by
  intro wd F cs H ds vs P PX Q R rv hs q
  match ds, rv, hs with
  | [d], rv, hs =>
    obtain ⟨v, e, rv1⟩ := rv.one
    subst e
    exact hf wd F cs H d v P Q R rv1 hs q
  | [], _, hs => exact hs.elim
  | _ :: _ :: _, _, hs => exact hs.elim
theorem refn_listOf : RefN X.K (fun xs H Q => ∃ p ys, xs = [.ref p] ∧ (SqL X.K H p ys ∨ SqT X.K H p ys) ∧ ∀ l, H l = none → Q (.ref l) (upd H l (.lst ys))) sListOf := by
  refine refn_one (f := fun d cs Q => match getQ d cs with
    | some xs => Q (.lst xs) cs
    | none => False) fun wd F cs H d v P Q R rv h q => ?_
  cases ex : getQ d cs with
  | none => simp only [ex] at h
  | some xs =>
    simp only [ex] at h
    obtain ⟨a, ws, e2, s, r2⟩ := R.getQ rv ex
    subst e2
    refine ⟨a, ws, rfl, s.imp SqL.of id, fun l hl => ?_⟩
    obtain ⟨wd', le, R', rp⟩ := R.lst hl r2
    exact q wd' _ cs _ _ le R' rp h
theorem refn_tupOf : RefN X.K (fun xs H Q => ∃ p ys, xs = [.ref p] ∧ ((SqL X.K H p ys ∧ ∀ l, H l = none → Q (.ref l) (upd H l (.tup ys))) ∨ (SqT X.K H p ys ∧ Q (.ref p) H))) sTupOf := by
  refine refn_one (f := fun d cs Q => match getQ d cs with
    | some xs => Q (.tup xs) cs
    | none => False) fun wd F cs H d v P Q R rv h q => ?_
  have byL : ∀ {a ws xs}, v = .ref a → H a = some (.lst ws) → RpL X.K wd xs ws → P (.tup xs) cs → ∃ p ys, [v] = [.ref p] ∧ ((SqL X.K H p ys ∧ ∀ l, H l = none → Q (.ref l) (upd H l (.tup ys))) ∨ (SqT X.K H p ys ∧ Q (.ref p) H)) := fun {a ws xs} e2 s r2 h => by
    subst e2
    refine ⟨a, ws, rfl, .inl ⟨SqL.of s, fun l hl => ?_⟩⟩
    obtain ⟨wd', le, R', rp⟩ := R.tup hl r2
    exact q wd' _ cs _ _ le R' rp h
  cases d with
  | tup xs =>
    have h : P (.tup xs) cs := h
    obtain ⟨a, ws, e2, s, r2⟩ := id rv
    have := q wd _ cs _ H (Wd.le.refl _) R rv h
    subst e2
    exact ⟨a, ws, rfl, .inr ⟨(SqT.of (R.b _ _ s)), this⟩⟩
  | lst xs =>
    obtain ⟨a, ws, e2, s, r2⟩ := R.getL (d := .lst xs) rv rfl
    exact byL e2 s r2 h
  | ref n =>
    cases ex : getL (.ref n) cs with
    | none =>
      have ex : getQ (.ref n) cs = none := ex
      simp only [ex] at h
    | some xs =>
      have ex2 : getQ (.ref n) cs = some xs := ex
      simp only [ex2] at h
      obtain ⟨a, ws, e2, s, r2⟩ := R.getL (d := .ref n) rv ex
      exact byL e2 s r2 h
  | _ => exact h.elim
theorem j_listOf (hg : Gl X "list") (hm : X.mg "list" = none) (ha : JE X W a ca) (h1 : starEach [a] X.env = (false, eval a X.env) :: starEach [] X.env := by rfl) : JE X W (.Call (.Name "list" p) [a] [] pos) (.app sListOf (.cons ca .nil)) :=
  j_bltnTy call_list_of refn_listOf hg hm boot_listG (ja_cons ha ja_nil h1) (he := h1) (hpl := rfl)
theorem j_tupOf (hg : Gl X "tuple") (hm : X.mg "tuple" = none) (ha : JE X W a ca) (h1 : starEach [a] X.env = (false, eval a X.env) :: starEach [] X.env := by rfl) : JE X W (.Call (.Name "tuple" p) [a] [] pos) (.app sTupOf (.cons ca .nil)) :=
  j_bltnTy call_tuple_of refn_tupOf hg hm boot_tupleG (ja_cons ha ja_nil h1) (he := h1) (hpl := rfl)

/-! ### list(range(..)) -/
/-! ### all, sum, min, max -/
theorem asBools_V {wd : Wd} : ∀ {ds : List D} {vs : List V} {bs : List Bool}, RpL K wd ds vs → asBools ds = some bs → vs = bs.map V.bl
  | [], vs, bs, r, h => by
    cases (show vs = _ from r)
    cases h
    rfl
  | d :: ds, vs, bs, r, h => by
    obtain ⟨v, r', e, r1, r2⟩ := r
    subst e
    cases d with
    | bl x =>
      have h : (asBools ds).map (x :: ·) = some bs := h
      cases q : asBools ds with
      | none => rw [q] at h; cases h
      | some cs =>
        rw [q] at h
        cases h
        cases (show v = _ from r1)
        rw [asBools_V r2 q]
        rfl
    | _ => cases h
theorem asInts_V {wd : Wd} : ∀ {ds : List D} {vs : List V} {bs : List Int}, RpL K wd ds vs → asInts ds = some bs → vs = bs.map V.int
  | [], vs, bs, r, h => by
    cases (show vs = _ from r)
    cases h
    rfl
  | d :: ds, vs, bs, r, h => by
    obtain ⟨v, r', e, r1, r2⟩ := r
    subst e
    cases d with
    | int x =>
      have h : (asInts ds).map (x :: ·) = some bs := h
      cases q : asInts ds with
      | none => rw [q] at h; cases h
      | some cs =>
        rw [q] at h
        cases h
        cases (show v = _ from r1)
        rw [asInts_V r2 q]
        rfl
    | _ => cases h
theorem refn_all : RefN X.K (rAll X.K) sAll := by
  refine refn_one (f := fun d cs Q => match getL d cs with
    | some xs => match asBools xs with
      | some bs => Q (.bl (bs.all id)) cs
      | none => False
    | none => False) fun wd F cs H d v P Q R rv h q => ?_
  cases ex : getL d cs with
  | none => simp only [ex] at h
  | some xs =>
    simp only [ex] at h
    cases eb : asBools xs with
    | none => simp only [eb] at h
    | some bs =>
      simp only [eb] at h
      obtain ⟨a, ws, e2, s, r2⟩ := R.getL rv ex
      subst e2
      have := asBools_V r2 eb
      subst this
      exact ⟨a, bs, rfl, SqL.of s, q wd (.bl _) cs _ H (Wd.le.refl _) R rfl h⟩
theorem boot_allG : bootBuiltins "all" = some (.builtin "all") := by decide +kernel
theorem boot_isiG : bootBuiltins "isinstance" = some (.builtin "isinstance") := by decide +kernel
theorem j_all (hc : X.calm = true) (hg : Gl X "all") (hm : X.mg "all" = none) (ha : JE X W a ca) (h1 : starEach [a] X.env = (false, eval a X.env) :: starEach [] X.env := by rfl) : JE X W (.Call (.Name "all" p) [a] [] pos) (.app sAll (.cons ca .nil)) :=
  j_bltn (cr_all hc) refn_all hg hm boot_allG (ja_cons ha ja_nil h1) (he := h1) (hpl := rfl)
/-! ### isinstance -/
def tyN : Ty → String
  | .int => "int"
  | .bool => "bool"
  | .str => "str"
  | .list => "list"
  | .tuple => "tuple"
theorem kit_none (t : Ty) : kitB "NoneType" (tyN t) = some false := by cases t <;> decide +kernel
theorem kit_bool (t : Ty) : kitB "bool" (tyN t) = isTy (fun _ => none) (.bl true) t := by cases t <;> decide +kernel
theorem kit_int (t : Ty) : kitB "int" (tyN t) = isTy (fun _ => none) (.int 0) t := by cases t <;> decide +kernel
theorem kit_str (t : Ty) : kitB "str" (tyN t) = isTy (fun _ => none) (.str (Str.ofString "")) t := by cases t <;> decide +kernel
theorem kit_tup (t : Ty) : kitB "tuple" (tyN t) = isTy (fun _ => none) (.tup []) t := by cases t <;> decide +kernel
theorem kit_lst (t : Ty) : kitB "list" (tyN t) = isTy (fun _ => none) (.lst []) t := by cases t <;> decide +kernel
/-- a value's type, with the answers -/
theorem ty_V {wd : Wd} {F H : Hp} {cs : Cs} (R : Rl K wd F cs H) {d : D} {v : V} (r : Rp K wd d v) (hk : ∃ t b, isTy cs d t = some b) : ∃ n : String, TyX K H v (.type n) ∧ ∀ t b, isTy cs d t = some b → kitB n (tyN t) = some b := by
  cases d with
  | non => cases (show v = _ from r); exact ⟨_, .base .non, fun t b h => by rw [kit_none]; exact h⟩
  | bl x => cases (show v = _ from r); exact ⟨_, .base (.bl x), fun t b h => by rw [kit_bool, ← h]; cases t <;> rfl⟩
  | int x => cases (show v = _ from r); exact ⟨_, .base (.int x), fun t b h => by rw [kit_int, ← h]; cases t <;> rfl⟩
  | str x => cases (show v = _ from r); exact ⟨_, .base (.str x), fun t b h => by rw [kit_str, ← h]; cases t <;> rfl⟩
  | tup ds =>
    obtain ⟨a, xs, e, s, _⟩ := r
    subst e
    refine ⟨"tuple", ?_, fun t b h => by rw [kit_tup, ← h]; cases t <;> rfl⟩
    rcases (SqT.of (R.b _ _ s)) with (s | ⟨o, s⟩) | ⟨o, its, n, h1, h2, _⟩
    · exact .base (.tup s)
    · exact .fTuple s
    · exact .kTuple h1 h2
  | lst ds =>
    obtain ⟨a, xs, e, s, _⟩ := r
    subst e
    exact ⟨"list", .base (.lst (R.b a _ s)), fun t b h => by rw [kit_lst, ← h]; cases t <;> rfl⟩
  | dic _ _ => obtain ⟨t, b, h⟩ := hk; cases t <;> cases h
  | scr => obtain ⟨t, b, h⟩ := hk; cases t <;> cases h
  | clo _ _ _ => obtain ⟨t, b, h⟩ := hk; cases t <;> cases h
  | ref n =>
    obtain ⟨t, b, h⟩ := hk
    have hl : ∃ xs, cs n = some (.lst xs) := by
      cases q : cs n with
      | none => simp only [isTy, q] at h; cases h
      | some o =>
        cases o with
        | lst xs => exact ⟨xs, rfl⟩
        | _ => simp only [isTy, q] at h; cases h
    obtain ⟨xs, hl⟩ := hl
    obtain ⟨a, ws, e, s, _⟩ := R.getL (d := .ref n) (xs := xs) r (by simp only [getL, hl])
    subst e
    refine ⟨"list", .base (.lst s), fun t b h => ?_⟩
    rw [kit_lst, ← h]
    cases t <;> simp only [isTy, hl]
theorem j_isi {T : Str} {t : Ty} {q : Pos} (hg : Gl X "isinstance") (hm : X.mg "isinstance" = none) (hgT : Gl X T) (hmT : X.mg T = none) (hT : bootBuiltins T = some (.type (tyN t))) (ha : JE X W a ca) (hTn : T ≠ "__name__" := by decide) (hTd : (T == ("__debug__" : Str)) = false := by decide)
    (h1 : starEach [a, .Name T q] X.env = (false, eval a X.env) :: starEach [.Name T q] X.env := by rfl) (h2 : starEach [.Name T q] X.env = (false, eval (.Name T q) X.env) :: starEach [] X.env := by rfl) (hpl : (backTo pos (starEach [.Name T q] X.env)).any (·.1) = false := by rfl) :
    JE X W (.Call (.Name "isinstance" p) [a, .Name T q] [] pos) (.app (sIsi t) (.cons ca .nil)) := by
  obtain ⟨ta, p1, r1⟩ := ha
  refine ⟨_, pe_callB call_isi hg hm boot_isiG (pa_cons p1 (pa_cons (pe_bltn (v := .ty (tyN t)) hgT hmT hT rfl hTn hTd) pa_nil h2) h1) (he := h1) (hpl := hpl), fun wd F τ cs σ H P PX Q R rs h q x => ?_⟩
  refine r1 wd F τ cs σ H _ PX _ R rs h (fun wd1 d c1 v H1 l1 R1 rv h1 => ?_) x
  have h1 : (match isTy c1 d t with
    | some b => P (.bl b) c1
    | none => False) := h1
  cases eb : isTy c1 d t with
  | none => rw [eb] at h1; exact h1.elim
  | some b =>
    rw [eb] at h1
    obtain ⟨n, ty, hk⟩ := ty_V R1 rv ⟨t, b, eb⟩
    exact ⟨v, .ty (tyN t), .type n, .type (tyN t), b, rfl, .ty _, ty, kit_ty (hk t b eb), q wd1 (.bl b) c1 _ H1 l1 R1 rfl h1⟩
theorem j_isi2 {T T' : Str} {t t' : Ty} {q q' r' : Pos} {kk : Nat} (hg : Gl X "isinstance") (hm : X.mg "isinstance" = none) (hgT : Gl X T) (hmT : X.mg T = none) (hT : bootBuiltins T = some (.type (tyN t))) (hgT' : Gl X T') (hmT' : X.mg T' = none) (hT' : bootBuiltins T' = some (.type (tyN t'))) (ha : JE X W a ca)
    (hTn : T ≠ "__name__" := by decide) (hTd : (T == ("__debug__" : Str)) = false := by decide) (hTn' : T' ≠ "__name__" := by decide) (hTd' : (T' == ("__debug__" : Str)) = false := by decide)
    (h1 : starEach [a, .Tuple [.Name T q, .Name T' q'] kk r'] X.env = (false, eval a X.env) :: starEach [.Tuple [.Name T q, .Name T' q'] kk r'] X.env := by rfl) (h2 : starEach [.Tuple [.Name T q, .Name T' q'] kk r'] X.env = (false, eval (.Tuple [.Name T q, .Name T' q'] kk r') X.env) :: starEach [] X.env := by rfl) (hpl : (backTo pos (starEach [.Tuple [.Name T q, .Name T' q'] kk r'] X.env)).any (·.1) = false := by rfl)
    (h3 : starEach [.Name T q, .Name T' q'] X.env = (false, eval (.Name T q) X.env) :: starEach [.Name T' q'] X.env := by rfl) (h4 : starEach [.Name T' q'] X.env = (false, eval (.Name T' q') X.env) :: starEach [] X.env := by rfl) :
    JE X W (.Call (.Name "isinstance" p) [a, .Tuple [.Name T q, .Name T' q'] kk r'] [] pos) (.app (sIsi2 t t') (.cons ca .nil)) := by
  obtain ⟨ta, p1, r1⟩ := ha
  refine ⟨_, pe_callB call_isiT hg hm boot_isiG (pa_cons p1 (pa_cons (pe_tup (pa_cons (pe_bltn (v := .ty (tyN t)) hgT hmT hT rfl hTn hTd) (pa_cons (pe_bltn (v := .ty (tyN t')) hgT' hmT' hT' rfl hTn' hTd') pa_nil h4) h3)) pa_nil h2) h1) (he := h1) (hpl := hpl), fun wd F τ cs σ H P PX Q R rs h q x => ?_⟩
  refine r1 wd F τ cs σ H _ PX _ R rs h (fun wd1 d c1 v H1 l1 R1 rv h1 => ?_) x
  have h1 : (match isTy c1 d t, isTy c1 d t' with
    | some a, some b => P (.bl (a || b)) c1
    | _, _ => False) := h1
  cases eb : isTy c1 d t with
  | none => rw [eb] at h1; exact h1.elim
  | some b =>
    cases eb' : isTy c1 d t' with
    | none => rw [eb, eb'] at h1; exact h1.elim
    | some b' =>
      rw [eb, eb'] at h1
      refine ⟨by show 2 ≤ sizeLine; rw [sizeL]; decide, fun tp htp => ?_⟩
      obtain ⟨R2, l2⟩ := R1.new htp (.tup [.ty (tyN t), .ty (tyN t')])
      obtain ⟨n, ty, hk⟩ := ty_V R2 (rv.mono l2) ⟨t, b, eb⟩
      refine ⟨v, tp, [.ty (tyN t), .ty (tyN t')], .type n, [.type (tyN t), .type (tyN t')], b || b', rfl, upd_same, .cons (.ty _) (.cons (.ty _) .nil), ty, ?_, q _ (.bl (b || b')) c1 _ _ (l1.trans l2) R2 rfl h1⟩
      refine kitAny_cons (b := b) (kit_ty (hk t b eb)) (fun z => ?_) fun z => by rw [z]; rfl
      rw [z, Bool.false_or]
      exact kitAny_cons (b := b') (kit_ty (hk t' b' eb')) (fun z => by rw [z]; exact kitAny_nil) fun z => z
end
end G

/-! GStm: tests, statements, loops, comprehensions. -/
namespace G
open PySem PySem.Spec L2
open Evl (Ex)
def JW (X : Cx) (W : WX) (e : Expr) (c : E) : Prop := ∃ tt, PW X e tt ∧ RefT X W tt c
section
variable {X : Cx} {W : WX} {pos : Pos} {a b c e : Expr} {ca cb cc ce : E} {K : PySem.W.Frag} {p : Pos} {rest : List Expr}
/-! ### tests -/
theorem jt_val (h : JE X W e ce) (he : ∀ whole, isTrue e X.env whole = (do let v ← whole; standAt e.pos; holding [v] (truthy v)) := by intro _; rfl) : JT X W e ce := by
  obtain ⟨te, p1, r1⟩ := h
  refine ⟨_, pt_val p1 he, fun wd F τ cs σ H P PX Q R rs h q x => ?_⟩
  refine r1 wd F τ cs σ H _ PX _ R rs h (fun wd1 d c1 v H1 l1 R1 rv h1 => ?_) x
  obtain ⟨k, e, hp⟩ := q wd1 d c1 H1 l1 R1 h1
  subst e
  exact ⟨k, rv, hp⟩
theorem jt_w (h : JW X W e ce) : JT X W e ce := by
  obtain ⟨tt, p1, r1⟩ := h
  exact ⟨tt, p1.pt, r1⟩
theorem sNot_inv {d : D} {cs : Cs} {P : KD} {PX : KX} (h : sNot [d] cs P PX) : ∃ k, d = .bl k ∧ P (.bl (!k)) cs := by
  cases d with
  | bl k => exact ⟨k, rfl, h⟩
  | _ => exact h.elim
theorem jt_not (h : JT X W a ca) : JT X W (.UnaryOp .Not a pos) (.app sNot (.cons ca .nil)) := by
  obtain ⟨tt, p1, r1⟩ := h
  refine ⟨_, pt_not p1, fun wd F τ cs σ H P PX Q R rs h q x => ?_⟩
  refine r1 wd F τ cs σ H _ PX (fun c H1 => Q (!c) H1) R rs h (fun wd1 d c1 H1 l1 R1 h1 => ?_) x
  obtain ⟨k, e, hp⟩ := sNot_inv (PX := PX) h1
  obtain ⟨k', e', hp'⟩ := q wd1 _ c1 H1 l1 R1 hp
  cases e'
  exact ⟨k, e, hp'⟩
theorem jw_and1 (h : JT X W a ca) : JW X W (.BoolOp .And [a] pos) ca := by
  obtain ⟨tt, p1, r1⟩ := h
  exact ⟨_, pw_and1 p1, r1⟩
theorem jw_or1 (h : JT X W a ca) : JW X W (.BoolOp .Or [a] pos) ca := by
  obtain ⟨tt, p1, r1⟩ := h
  exact ⟨_, pw_or1 p1, r1⟩
theorem ref_andT {ta tb : TT} (r1 : RefT X W ta ca) (r2 : RefT X W tb cb) : RefT X W (tAnd ta tb) (.and ca cb) := by
  intro wd F τ cs σ H P PX Q R rs h q x
  refine r1 wd F τ cs σ H _ PX _ R rs h (fun wd1 d c1 H1 l1 R1 h1 => ?_) x
  cases d with
  | bl k =>
    refine ⟨k, rfl, ?_⟩
    cases k with
    | true => exact r2 wd1 F τ c1 σ H1 P PX Q R1 (rs.mono l1) h1 (fun wd2 d2 c2 H2 l2 => q wd2 d2 c2 H2 (l1.trans l2)) (x.mono l1)
    | false =>
      obtain ⟨k', e', hp'⟩ := q wd1 _ c1 H1 l1 R1 h1
      cases e'
      exact hp'
  | _ => exact h1.elim
theorem ref_orT {ta tb : TT} (r1 : RefT X W ta ca) (r2 : RefT X W tb cb) : RefT X W (tOr ta tb) (.or ca cb) := by
  intro wd F τ cs σ H P PX Q R rs h q x
  refine r1 wd F τ cs σ H _ PX _ R rs h (fun wd1 d c1 H1 l1 R1 h1 => ?_) x
  cases d with
  | bl k =>
    refine ⟨k, rfl, ?_⟩
    cases k with
    | false => exact r2 wd1 F τ c1 σ H1 P PX Q R1 (rs.mono l1) h1 (fun wd2 d2 c2 H2 l2 => q wd2 d2 c2 H2 (l1.trans l2)) (x.mono l1)
    | true =>
      obtain ⟨k', e', hp'⟩ := q wd1 _ c1 H1 l1 R1 h1
      cases e'
      exact hp'
  | _ => exact h1.elim
theorem jw_and (h1 : JT X W a ca) (h2 : JW X W (.BoolOp .And (b :: rest) pos) cb) : JW X W (.BoolOp .And (a :: b :: rest) pos) (.and ca cb) := by
  obtain ⟨ta, p1, r1⟩ := h1
  obtain ⟨tb, p2, r2⟩ := h2
  exact ⟨_, pw_and p1 p2, ref_andT r1 r2⟩
theorem jw_or (h1 : JT X W a ca) (h2 : JW X W (.BoolOp .Or (b :: rest) pos) cb) : JW X W (.BoolOp .Or (a :: b :: rest) pos) (.or ca cb) := by
  obtain ⟨ta, p1, r1⟩ := h1
  obtain ⟨tb, p2, r2⟩ := h2
  exact ⟨_, pw_or p1 p2, ref_orT r1 r2⟩
/-! ### the same as values -/
theorem je_one {op} (h : JE X W a ca) : JE X W (.BoolOp op [a] pos) ca := by
  obtain ⟨ta, p1, r1⟩ := h
  exact ⟨_, pe_one p1, r1⟩
theorem je_and (h1 : JE X W a ca) (h2 : JE X W (.BoolOp .And (b :: rest) pos) cb) : JE X W (.BoolOp .And (a :: b :: rest) pos) (.and ca cb) := by
  obtain ⟨ta, p1, r1⟩ := h1
  obtain ⟨tb, p2, r2⟩ := h2
  refine ⟨_, pe_and p1 p2, fun wd F τ cs σ H P PX Q R rs h q x => ?_⟩
  refine r1 wd F τ cs σ H _ PX _ R rs h (fun wd1 d c1 v H1 l1 R1 rv h1 => ?_) x
  cases d with
  | bl k =>
    refine ⟨k, rv, ?_⟩
    cases k with
    | true => exact r2 wd1 F τ c1 σ H1 P PX Q R1 (rs.mono l1) h1 (q.mono l1) (x.mono l1)
    | false => exact q wd1 (.bl false) c1 _ H1 l1 R1 rfl h1
  | _ => exact h1.elim
theorem je_if (h : JT X W c cc) (h1 : JE X W a ca) (h2 : JE X W b cb) : JE X W (.IfExp c a b pos) (.ite cc ca cb) := by
  obtain ⟨tc, p0, r0⟩ := h
  obtain ⟨ta, p1, r1⟩ := h1
  obtain ⟨tb, p2, r2⟩ := h2
  refine ⟨_, pe_ifExp p0 p1 p2, fun wd F τ cs σ H P PX Q R rs h q x => ?_⟩
  refine r0 wd F τ cs σ H _ PX _ R rs h (fun wd1 d c1 H1 l1 R1 h1 => ?_) x
  cases d with
  | bl k =>
    refine ⟨k, rfl, ?_⟩
    cases k with
    | true => exact r1 wd1 F τ c1 σ H1 P PX Q R1 (rs.mono l1) h1 (q.mono l1) (x.mono l1)
    | false => exact r2 wd1 F τ c1 σ H1 P PX Q R1 (rs.mono l1) h1 (q.mono l1) (x.mono l1)
  | _ => exact h1.elim
/-! ### chains -/
theorem ref_chain {op op' : CmpOp} {r r' : R2} {s1 s2 : Spec} {ta tb tc : TE} (h1 : Ref2 X.K r s1) (h2 : Ref2 X.K r' s2) (ha : RefE X W ta ca) (hb : RefE X W tb cb) (hc : RefE X W tc cc) : RefE X W (tChain r r' ta tb tc) (.chain s1 s2 ca cb cc) := by
  intro wd F τ cs σ H P PX Q R rs h q x
  refine ha wd F τ cs σ H _ PX _ R rs h (fun wd1 d1 c1 v1 H1 l1 R1 rv1 h1' => ?_) x
  refine hb wd1 F τ c1 σ H1 _ PX _ R1 (rs.mono l1) h1' (fun wd2 d2 c2 v2 H2 l2 R2 rv2 h2' => ?_) (x.mono l1)
  refine h1 wd2 F c2 H2 d1 d2 v1 v2 _ PX _ R2 (rv1.mono l2) rv2 h2' fun wd3 d3 c3 v3 H3 l3 R3 rv3 h3 => ?_
  cases d3 with
  | bl k =>
    refine ⟨k, rv3, ?_⟩
    have l13 := l1.trans (l2.trans l3)
    cases k with
    | true =>
      refine hc wd3 F τ c3 σ H3 _ PX _ R3 (rs.mono l13) h3 (fun wd4 d4 c4 v4 H4 l4 R4 rv4 h4 => ?_) (x.mono l13)
      refine h2 wd4 F c4 H4 d2 d4 v2 v4 _ PX _ R4 (rv2.mono (l3.trans l4)) rv4 h4 fun wd5 d5 c5 v5 H5 l5 R5 rv5 h5 => ?_
      cases d5 with
      | bl k' => exact q wd5 _ c5 _ H5 (l13.trans (l4.trans l5)) R5 rv5 h5
      | _ => exact h5.elim
    | false => exact q wd3 (.bl false) c3 _ H3 l13 R3 rfl h3
  | _ => exact h3.elim
theorem jt_chain {op op' : CmpOp} {r r' : R2} {s1 s2 : Spec} (ho : OpR X (compareOp op) r) (ho' : OpR X (compareOp op') r') (h1 : Ref2 X.K r s1) (h2 : Ref2 X.K r' s2) (ha : JE X W a ca) (hb : JE X W b cb) (hc : JE X W c cc)
    (hm : lastMarks [op, op'] [b, c] = false := by with_unfolding_all rfl) : JT X W (.Compare a [op, op'] [b, c] pos) (.chain s1 s2 ca cb cc) := by
  obtain ⟨ta, p1, r1⟩ := ha
  obtain ⟨tb, p2, r2⟩ := hb
  obtain ⟨tc, p3, r3⟩ := hc
  exact ⟨_, pt_chain ho ho' p1 p2 p3 hm, ref_test (ref_chain (op := op) (op' := op') h1 h2 r1 r2 r3)⟩
theorem jt_chLeLt (ha : JE X W a ca) (hb : JE X W b cb) (hc : JE X W c cc) (hm : lastMarks [.LtE, .Lt] [b, c] = false := by with_unfolding_all rfl) : JT X W (.Compare a [.LtE, .Lt] [b, c] pos) (.chain sLe sLt ca cb cc) := jt_chain op_le op_lt (ref_int0 fun _ _ _ => rfl) (ref_int0 fun _ _ _ => rfl) ha hb hc hm
theorem jt_chLeLe (ha : JE X W a ca) (hb : JE X W b cb) (hc : JE X W c cc) (hm : lastMarks [.LtE, .LtE] [b, c] = false := by with_unfolding_all rfl) : JT X W (.Compare a [.LtE, .LtE] [b, c] pos) (.chain sLe sLe ca cb cc) := jt_chain op_le op_le (ref_int0 fun _ _ _ => rfl) (ref_int0 fun _ _ _ => rfl) ha hb hc hm

/-! ### targets -/
def RefG (X : Cx) (g : TG) (pt : Pat) (own : List Nat) : Prop := ∀ wd F τ cs σ H d v τ' (Q : St → Hp → Prop), Rl X.K wd F cs H → RS X.K wd τ σ → Rp X.K wd d v → bindP pt [d] τ = some τ' →
  (∀ σ', RS X.K wd τ' σ' → L2.wipe σ' own = L2.wipe σ own → Q σ' H) → g v σ H Q
def RefGs (X : Cx) (g : TGs) (pt : Pat) (own : List Nat) : Prop := ∀ wd F τ cs σ H ds vs τ' (Q : St → Hp → Prop), Rl X.K wd F cs H → RS X.K wd τ σ → RpL X.K wd ds vs → bindP pt ds τ = some τ' →
  (∀ σ', RS X.K wd τ' σ' → L2.wipe σ' own = L2.wipe σ own → Q σ' H) → g vs σ H Q
def JG (X : Cx) (tg : Expr) (pt : Pat) (own : List Nat) : Prop := ∃ g, PG X tg g ∧ RefG X g pt own
def JGs (X : Cx) (tgs : List Expr) (pt : Pat) (own : List Nat) (n : Nat) : Prop := ∃ g, PGs X tgs g ∧ RefGs X g pt own ∧ ∀ ds (τ : Sl) τ', bindP pt ds τ = some τ' → ds.length = n
theorem wipe_in {σ : St} {i : Nat} : ∀ {vs : List Nat}, i ∈ vs → (L2.wipe σ vs)[i]? = if i < σ.length then some none else none
  | v :: vs, h => by
    show ((L2.wipe σ vs).set v none)[i]? = _
    by_cases e : i = v
    · subst e
      by_cases hl : i < σ.length
      · rw [if_pos hl, List.getElem?_set_self (by rw [L2.wipe_length]; exact hl)]
      · rw [if_neg hl, List.getElem?_eq_none (by rw [List.length_set, L2.wipe_length]; omega)]
    · rw [List.getElem?_set_ne (Ne.symm e)]
      exact wipe_in ((List.mem_cons.mp h).resolve_left e)
theorem wipe_set {σ : St} {i : Nat} {v : Option V} {own : List Nat} (h : i ∈ own) : L2.wipe (σ.set i v) own = L2.wipe σ own := by
  apply List.ext_getElem?
  intro k
  by_cases hk : k ∈ own
  · rw [wipe_in hk, wipe_in hk, List.length_set]
  · rw [L2.wipe_out hk, L2.wipe_out hk, List.getElem?_set_ne (fun e : i = k => hk (by rw [← e]; exact h))]
theorem jg_nm (i : Nat) {own : List Nat} {x : Str} (hN : X.N.Nodup) (hi : X.N[i]? = some x) (hx : Loc X.env.scope x) (ho : i ∈ own) (hf : X.fn x = true ∨ X.env.scope.names.lookup x = some .local := by first | exact .inl rfl | exact .inr rfl | assumption) : JG X (.Name x pos) (.nm i) own := by
  refine ⟨_, pg_name hN hi hx hf, fun wd F τ cs σ H d v τ' Q R rs rv hb h => ?_⟩
  cases hb
  exact h _ (rs.set i rv) (wipe_set ho)
theorem jgs_nil {own : List Nat} : JGs X [] .nil own 0 := by
  refine ⟨_, pgs_nil, fun wd F τ cs σ H ds vs τ' Q R rs rv hb h => ?_, fun ds τ τ' h => ?_⟩
  · cases ds with
    | nil =>
      cases hb
      exact ⟨rv, h _ rs rfl⟩
    | cons _ _ => cases hb
  · cases ds with
    | nil => rfl
    | cons _ _ => cases h
theorem jgs_cons {own : List Nat} {tg : Expr} {tgs : List Expr} {p q : Pat} {n : Nat} (h1 : JG X tg p own) (h2 : JGs X tgs q own n) (hs : (assignEach (tg :: tgs) X.env).map (·.2) = assign tg X.env :: (assignEach tgs X.env).map (·.2) := by rfl) : JGs X (tg :: tgs) (.cons p q) own (n + 1) := by
  obtain ⟨g1, p1, r1⟩ := h1
  obtain ⟨g2, p2, r2, hl⟩ := h2
  refine ⟨_, pgs_cons p1 p2 hs, fun wd F τ cs σ H ds vs τ' Q R rs rv hb h => ?_, fun ds τ τ' h => ?_⟩
  · cases ds with
    | nil => cases hb
    | cons d ds =>
      obtain ⟨v, r, e, rv1, rv2⟩ := rv
      subst e
      have hb : (match bindP p [d] τ with
        | some σ' => bindP q ds σ'
        | none => none) = some τ' := hb
      cases e1 : bindP p [d] τ with
      | none => rw [e1] at hb; cases hb
      | some τ1 =>
        rw [e1] at hb
        refine ⟨v, r, rfl, r1 wd F τ cs σ H d v τ1 _ R rs rv1 e1 fun σ1 rs1 w1 => ?_⟩
        exact r2 wd F τ1 cs σ1 H ds r τ' Q R rs1 rv2 hb fun σ2 rs2 w2 => h σ2 rs2 (w2.trans w1)
  · cases ds with
    | nil => cases h
    | cons d ds =>
      have hb : (match bindP p [d] τ with
        | some σ' => bindP q ds σ'
        | none => none) = some τ' := h
      cases e1 : bindP p [d] τ with
      | none => rw [e1] at hb; cases hb
      | some τ1 =>
        rw [e1] at hb
        rw [List.length_cons, hl ds τ1 τ' hb]
theorem jg_tup {own : List Nat} {es : List Expr} {k n : Nat} {q : Pat} (hc : X.calm = true) (h : JGs X es q own n) (hn : (assignEach es X.env).length = n := by rfl) (hst : (assignEach es X.env).findIdx? (·.1) = none := by rfl) : JG X (.Tuple es k pos) (.tup q) own := by
  obtain ⟨g, p1, r1, hl⟩ := h
  refine ⟨_, pg_tup hc p1 hn hst, fun wd F τ cs σ H d v τ' Q R rs rv hb h => ?_⟩
  cases d with
  | tup ds =>
    have hb : bindP q ds τ = some τ' := hb
    obtain ⟨a, xs, e, s, r⟩ := rv
    exact ⟨a, xs, e, SqT.of (R.b _ _ s), by rw [r.length]; exact hl ds τ τ' hb, r1 wd F τ cs σ H ds xs τ' Q R rs r hb h⟩
  | _ => cases hb

/-! ### statements -/
variable {s s1 s2 : S} {st : Stmt} {sts : List Stmt}
theorem jss_nil : JSs X W [] .skip := ⟨_, pss_nil, fun wd F τ cs σ H P Q R rs h q => q.nx wd τ cs σ H (Wd.le.refl _) R rs h⟩
theorem jss_one (h : JS X W st s) : JSs X W [st] s := by
  obtain ⟨t, p1, r1⟩ := h
  exact ⟨_, pss_one p1, r1⟩
theorem ref_seq {t1 t2 : TS} (r1 : RefS X W t1 s1) (r2 : RefS X W t2 s2) : RefS X W (tSeq t1 t2) (.seq s1 s2) := by
  intro wd F τ cs σ H P Q R rs h q
  refine r1 wd F τ cs σ H _ _ R rs h ⟨fun wd1 τ1 c1 σ1 H1 l1 R1 rs1 h1 => ?_, q.bk, q.ct, q.rt, q.ex⟩
  exact r2 wd1 F τ1 c1 σ1 H1 P Q R1 rs1 h1 (q.mono l1)
theorem jss_cons (h1 : JS X W st s1) (h2 : JSs X W sts s2) : JSs X W (st :: sts) (.seq s1 s2) := by
  obtain ⟨t1, p1, r1⟩ := h1
  obtain ⟨t2, p2, r2⟩ := h2
  exact ⟨_, pss_cons p1 p2, ref_seq r1 r2⟩
/-- a dict's cell becomes known: it is locked for good -/
theorem Rl.freezeD {K : PySem.W.Frag} {wd : Wd} {F H : Hp} {cs : Cs} (R : Rl K wd F cs H) {n : Nat} {ob : Ob} {a : Addr} {u : HO} (hn : cs n = some ob) (ha : wd.r n = some a) (hH : H a = some u) (o : Obj) :
    wd.le ⟨upd wd.B a (.frz o u), wd.r, wd.k⟩ ∧ Rl K ⟨upd wd.B a (.frz o u), wd.r, wd.k⟩ F (del cs n) (upd H a (.frz o u)) := by
  obtain ⟨a', u', e1, e2, e3, e4, e5⟩ := R.cell n _ hn
  have ea : a' = a := Option.some.inj (e1.symm.trans ha)
  subst ea
  have le : wd.le ⟨upd wd.B a' (.frz o u), wd.r, wd.k⟩ := ⟨Ex.new e2, fun _ _ h => h⟩
  refine ⟨le, ⟨fun b w e => ?_, fun b w e => ?_, fun b w e => ?_, R.inj, fun m w e => ?_, fun m b e => ?_, R.top, R.rf, R.fe, fun p hp => ?_, R.btNew (fun q z => by cases z)⟩⟩
  · have e : upd wd.B a' (.frz o u) b = some w := e
    by_cases h : b = a'
    · subst h
      rw [upd_same] at e ⊢
      exact e
    · rw [upd_ne h] at e ⊢
      exact R.b b w e
  · rw [upd_ne (ne_of_none e e3)]
    exact R.f b w e
  · have e : upd wd.B a' (.frz o u) b = some w := e
    by_cases h : b = a'
    · subst h
      exact e3
    · rw [upd_ne h] at e
      exact R.bf b w e
  · unfold del at e
    by_cases hm : m = n
    · rw [if_pos hm] at e
      cases e
    · rw [if_neg hm] at e
      obtain ⟨b, x, f1, f2, f3, f4, f5⟩ := R.cell m w e
      have ne : b ≠ a' := fun z => hm (R.inj m n a' (by rw [← z]; exact f1) e1)
      exact ⟨b, x, f1, (upd_ne ne).trans f2, f3, (upd_ne ne).trans f4, f5.mono le⟩
  · by_cases h : b = a'
    · subst h
      exact ⟨_, upd_same, fun q z => by cases z⟩
    · obtain ⟨w, hw, hk⟩ := R.ran m b e
      exact ⟨w, by rw [upd_ne h]; exact hw, hk⟩
  · obtain ⟨ps, h1, h2, h3⟩ := R.tab p hp
    have ne : p.1 ≠ a' := fun z => by
      rw [z, e4] at h1
      exact e5.notbl ps (Option.some.inj h1)
    exact ⟨ps, by rw [upd_ne ne]; exact h1, h2, fun pos cv e => let ⟨c, e1, e2⟩ := h3 pos cv e; ⟨c, e1, le.B _ _ e2⟩⟩
def tOrLock (t : TS) : TS := fun D σ H => t D σ H ∨ ∃ d u, H d = some u ∧ Mut (some u) ∧ ∀ od, t D σ (upd H d (.frz od u))
theorem pss_orLock {X : Cx} {sts : List Stmt} {t : TS} (h : PSs X sts t) : PSs X sts (tOrLock t) := by
  refine ⟨fun pins s σ H D I hw => ?_⟩
  rcases hw with hw | ⟨d, u, hd, mu, hw⟩
  · exact h.run pins s σ H D I hw
  · obtain ⟨od, I1⟩ := I.lock hd mu
    exact h.run pins s σ _ D I1 (hw od)
/-- a list or a dict in a slot becomes a tree: no statement of the program's -/
theorem jss_frz (i : Nat) (h : JSs X W sts s) : JSs X W sts (.seq (.frz i) s) := by
  obtain ⟨t, p1, r1⟩ := h
  refine ⟨_, pss_orLock p1, fun wd F τ cs σ H P Q R rs h q => ?_⟩
  have h : (match getV τ i with
    | some (.ref n) => match cs n with
      | some (.lst xs) => wpS s (τ.set i (some (.lst xs))) (del cs n) P
      | some (.dic ks vs) => wpS s (τ.set i (some (.dic ks vs))) (del cs n) P
      | some (.dit l) => wpS s (τ.set i (some (.dic (l.map fun p => .tup (p.1.map kD)) (l.map (·.2))))) (del cs n) P
      | _ => False
    | _ => False) := h
  cases e : getV τ i with
  | none => rw [e] at h; exact h.elim
  | some d =>
    rw [e] at h
    cases d with
    | ref n =>
      have h : (match cs n with
        | some (.lst xs) => wpS s (τ.set i (some (.lst xs))) (del cs n) P
        | some (.dic ks vs) => wpS s (τ.set i (some (.dic ks vs))) (del cs n) P
        | some (.dit l) => wpS s (τ.set i (some (.dic (l.map fun p => .tup (p.1.map kD)) (l.map (·.2))))) (del cs n) P
        | _ => False) := h
      cases ec : cs n with
      | none => rw [ec] at h; exact h.elim
      | some o =>
        rw [ec] at h
        cases o with
        | lst xs =>
          obtain ⟨v, hv, a, ea, ev⟩ := rs.at_ i _ e
          obtain ⟨wd', a', le, ha', R', rp⟩ := R.freeze ec
          have : a' = a := Option.some.inj (ha'.symm.trans ea)
          subst this
          subst ev
          exact .inl (r1 wd' F _ _ σ H P Q R' ((rs.mono le).swap i hv rp) h (q.mono le))
        | dic ks vs =>
          obtain ⟨v, hv, a, ea, ev⟩ := rs.at_ i _ e
          obtain ⟨a', u, f1, f2, f3, f4, kvs, f5, f6, f7⟩ := R.cell n _ ec
          have : a' = a := Option.some.inj (f1.symm.trans ea)
          subst this
          subst ev f5
          refine .inr ⟨a', _, f4, trivial, fun od => ?_⟩
          obtain ⟨le, R'⟩ := R.freezeD ec ea f4 od
          exact r1 _ F _ _ σ _ P Q R' ((rs.mono le).swap i hv (show Rp X.K _ (.dic ks vs) (.ref a') from ⟨a', od, rfl, .inl ⟨kvs, upd_same, f6, RpL.mono le _ _ f7⟩⟩)) h (q.mono le)
        | dit l =>
          obtain ⟨v, hv, a, ea, ev⟩ := rs.at_ i _ e
          obtain ⟨a', u, f1, f2, f3, f4, kvs, f5, f6, f7⟩ := R.cell n _ ec
          have : a' = a := Option.some.inj (f1.symm.trans ea)
          subst this
          subst ev f5
          refine .inr ⟨a', _, f4, trivial, fun od => ?_⟩
          obtain ⟨le, R'⟩ := R.freezeD ec ea f4 od
          have ek : (l.map fun p => D.tup (p.1.map kD)) = kvs.map fun p => D.tup (p.1.map kD) := by
            have := congrArg (List.map fun k : List (Sum Int Str) => D.tup (k.map kD)) f6
            rw [List.map_map, List.map_map] at this
            exact this
          exact r1 _ F _ _ σ _ P Q R' ((rs.mono le).swap i hv (show Rp X.K _ (.dic (l.map fun p => .tup (p.1.map kD)) (l.map (·.2))) (.ref a') from ⟨a', od, rfl, .inr ⟨kvs, upd_same, ek, RpL.mono le _ _ f7⟩⟩)) h (q.mono le)
        | _ => exact h.elim
    | _ => exact h.elim
theorem js_exp (h : JE X W e ce) (hs : swapsWith e none pos.line X.env = pure false := by rfl) : JS X W (.Expr e pos) (.exp ce) := by
  obtain ⟨t, p1, r1⟩ := h
  refine ⟨_, ps_expr p1 hs, fun wd F τ cs σ H P Q R rs h q => ?_⟩
  exact r1 wd F τ cs σ H _ _ _ R rs h (fun wd1 d c1 v H1 l1 R1 rv h1 => q.nx wd1 τ c1 σ H1 l1 R1 (rs.mono l1) h1) (q.xok rs)
theorem js_ret (h : JE X W e ce) : JS X W (.Return (some e) pos) (.ret ce) := by
  obtain ⟨t, p1, r1⟩ := h
  refine ⟨_, ps_ret p1, fun wd F τ cs σ H P Q R rs h q => ?_⟩
  exact r1 wd F τ cs σ H _ _ _ R rs h (fun wd1 d c1 v H1 l1 R1 rv h1 => q.rt wd1 d c1 v H1 l1 R1 rv h1) (q.xok rs)
theorem js_if {xs ys : List Stmt} (h : JT X W c cc) (h1 : JSs X W xs s1) (h2 : JSs X W ys s2) : JS X W (.If c xs ys pos) (.ite cc s1 s2) := by
  obtain ⟨t0, p0, r0⟩ := h
  obtain ⟨t1, p1, r1⟩ := h1
  obtain ⟨t2, p2, r2⟩ := h2
  refine ⟨_, ps_if p0 p1 p2, fun wd F τ cs σ H P Q R rs h q => ?_⟩
  refine r0 wd F τ cs σ H _ _ _ R rs h (fun wd1 d c1 H1 l1 R1 h1 => ?_) (q.xok rs)
  cases d with
  | bl k =>
    refine ⟨k, rfl, ?_⟩
    cases k with
    | true => exact r1 wd1 F τ c1 σ H1 P Q R1 (rs.mono l1) h1 (q.mono l1)
    | false => exact r2 wd1 F τ c1 σ H1 P Q R1 (rs.mono l1) h1 (q.mono l1)
  | _ => exact h1.elim
theorem js_set (i : Nat) {x : Str} {p' : Pos} (hN : X.N.Nodup) (hi : X.N[i]? = some x) (hx : Loc X.env.scope x) (he : JE X W e ce) (hs : swapsWith e (some (.Name x p')) pos.line X.env = pure false := by rfl) (hf : X.fn x = true ∨ X.env.scope.names.lookup x = some .local := by first | exact .inl rfl | exact .inr rfl | assumption) :
    JS X W (.Assign [.Name x p'] e pos) (.asg (.nm i) ce) := by
  obtain ⟨t, p1, r1⟩ := he
  refine ⟨_, ps_set hN hi hx p1 hs hf, fun wd F τ cs σ H P Q R rs h q => ?_⟩
  exact r1 wd F τ cs σ H _ _ _ R rs h (fun wd1 d c1 v H1 l1 R1 rv h1 => q.nx wd1 _ c1 _ H1 l1 R1 ((rs.mono l1).set i rv) h1) (q.xok rs)
theorem js_asg {tg : Expr} {pt : Pat} {own : List Nat} (he : JE X W e ce) (hg : JG X tg pt own) (hs : swapsWithSole [tg] e pos.line X.env = pure false := by rfl) (hw : swappedStores [tg] e X.env = pure none := by rfl)
    (h1 : (assignEach [tg] X.env).map (·.2) = [assign tg X.env] := by rfl) : JS X W (.Assign [tg] e pos) (.asg pt ce) := by
  obtain ⟨t, p1, r1⟩ := he
  obtain ⟨g, p2, r2⟩ := hg
  refine ⟨_, ps_asg p1 p2 hs hw h1, fun wd F τ cs σ H P Q R rs h q => ?_⟩
  refine r1 wd F τ cs σ H _ _ _ R rs h (fun wd1 d c1 v H1 l1 R1 rv h1 => ?_) (q.xok rs)
  cases eb : bindP pt [d] τ with
  | none => rw [eb] at h1; exact h1.elim
  | some τ' =>
    rw [eb] at h1
    exact r2 wd1 F τ c1 σ H1 d v τ' _ R1 (rs.mono l1) rv eb fun σ' rs' _ => q.nx wd1 τ' c1 σ' H1 l1 R1 rs' h1
theorem js_par (i j : Nat) {x y : Str} {px py pt : Pos} {kt k2 pt2} (hc : X.calm = true) (hN : X.N.Nodup) (hi : X.N[i]? = some x) (hj : X.N[j]? = some y) (hij : i ≠ j)
    (hx : X.env.scope.names.lookup x = some .local) (hy : X.env.scope.names.lookup y = some .local) (ha : JE X W a ca) (hb : JE X W b cb)
    (hw : swappedStores [.Tuple [.Name x px, .Name y py] kt pt] (.Tuple [a, b] k2 pt2) X.env = pure (some [x, y]))
    (h1 : starEach [a, b] X.env = (false, eval a X.env) :: starEach [b] X.env := by rfl) (h2 : starEach [b] X.env = (false, eval b X.env) :: starEach [] X.env := by rfl)
    (hs : swapsWithSole [.Tuple [.Name x px, .Name y py] kt pt] (.Tuple [a, b] k2 pt2) pos.line X.env = pure false := by rfl) :
    JS X W (.Assign [.Tuple [.Name x px, .Name y py] kt pt] (.Tuple [a, b] k2 pt2) pos) (.asg (.tup (.cons (.nm i) (.cons (.nm j) .nil))) (.app sTup (.cons ca (.cons cb .nil)))) := by
  obtain ⟨ta, p1, r1⟩ := ja_cons ha (ja_cons hb ja_nil h2) h1
  refine ⟨_, ps_par hc hN hi hj hij hx hy p1 hw hs, fun wd F τ cs σ H P Q R rs h q => ?_⟩
  have h : wpEs (.cons ca (.cons cb .nil)) τ cs (fun ds cs' => sTup ds cs' (fun d c2 => match bindP (.tup (.cons (.nm i) (.cons (.nm j) .nil))) [d] τ with
    | some σ' => P.nx σ' c2
    | none => False) (fun x c2 => P.ex x τ c2)) (fun x c2 => P.ex x τ c2) := h
  refine r1 wd F τ cs σ H _ _ _ R rs h (fun wd1 ds c1 vs H1 l1 R1 rv h1 => ?_) (q.xok rs)
  have h1 := h1.2
  match ds, rv, h1 with
  | [d1, d2], rv, h1 =>
    obtain ⟨v, w, e, rv1, rv2⟩ := rv.two
    exact ⟨v, w, e, q.nx wd1 _ c1 _ H1 l1 R1 (((rs.mono l1).set i rv1).set j rv2) h1⟩
  | [], _, h1 => exact h1.elim
  | [_], _, h1 => exact h1.elim
  | _ :: _ :: _ :: _, _, h1 => exact h1.elim
end
end G

/-! GLoop: while, for, comprehensions, calls of defs. -/
namespace G
open PySem PySem.Spec L2
open Evl (Ex)
section
variable {X : Cx} {W : WX} {pos : Pos} {a b c e : Expr} {ca cb cc ce : E} {K : PySem.W.Frag} {p : Pos} {rest : List Expr} {s s1 s2 : S} {st : Stmt} {sts : List Stmt}
/-! ### while -/
theorem js_while (hp : PassesOwn (model X.prog X.w) X.A X.env X.xe) (h : JT X W c cc) (h1 : JSs X W sts s1) : JS X W (.While c sts [] pos) (.whl cc s1) := by
  obtain ⟨t0, p0, r0⟩ := h
  obtain ⟨t1, p1, r1⟩ := h1
  refine ⟨_, ps_while hp p0 p1, fun wd F τ cs σ H P Q R rs h q => ?_⟩
  obtain ⟨n, h⟩ := h
  refine ⟨fun m σ' H' => ∃ wd' τ' cs', wd.le wd' ∧ Rl X.K wd' F cs' H' ∧ RS X.K wd' τ' σ' ∧ whlN (wpE cc) (wpS s1) P m τ' cs', ⟨n, wd, τ, cs, Wd.le.refl _, R, rs, h⟩, ?_⟩
  rintro m σ' H' ⟨wd', τ', cs', l', R', rs', h'⟩
  cases m with
  | zero => exact h'.elim
  | succ m =>
    refine r0 wd' F τ' cs' σ' H' _ _ _ R' rs' h' (fun wd1 d c1 H1 l1 R1 h1 => ?_) ((q.mono l').xok rs')
    rcases h1 with ⟨e, h1⟩ | ⟨e, h1⟩
    · refine ⟨true, e, ?_⟩
      rw [if_pos rfl]
      have l2 := l'.trans l1
      refine ⟨fun σ2 H2 => ∃ wd2 τ2 cs2, wd.le wd2 ∧ Rl X.K wd2 F cs2 H2 ∧ RS X.K wd2 τ2 σ2 ∧ whlN (wpE cc) (wpS s1) P m τ2 cs2, fun σ2 H2 z => ⟨m, Nat.lt_succ_self m, z⟩, ?_⟩
      refine r1 wd1 F τ' c1 σ' H1 _ _ R1 (rs'.mono l1) h1 ⟨fun wd3 τ3 c3 σ3 H3 l3 R3 rs3 h3 => ⟨wd3, τ3, c3, l2.trans l3, R3, rs3, h3⟩, (q.mono l2).nx, fun wd3 τ3 c3 σ3 H3 l3 R3 rs3 h3 => ⟨wd3, τ3, c3, l2.trans l3, R3, rs3, h3⟩, (q.mono l2).rt, (q.mono l2).ex⟩
    · refine ⟨false, e, ?_⟩
      rw [if_neg Bool.false_ne_true]
      exact q.nx wd1 τ' c1 σ' H1 (l'.trans l1) R1 (rs'.mono l1) h1

/-! ### what is walked -/
/-- J yields the items, as long as the guard holds -/
structure ItOk (X : Cx) (wd : Wd) (F : Hp) (items : List D) (grd : Cs → Prop) (J : It) : Prop where
  go : ∀ wd' F' cs H i d, wd.le wd' → Rl X.K wd' F' cs H → grd cs → items[i]? = some d → J.go i H ∧ ∀ x H', J.yld i H x H' → ∃ wd'', wd'.le wd'' ∧ Rl X.K wd'' F' cs H' ∧ Rp X.K wd'' d x
  stop : ∀ wd' F' cs H, wd.le wd' → Rl X.K wd' F' cs H → grd cs → J.stop items.length H
def RefI (X : Cx) (W : WX) (wi : TI) (isp : ISpec) (as : Es) : Prop := ∀ wd F τ cs σ H (R' : List D → (Cs → Prop) → Cs → Prop) (PX : KX) (R : It → Hp → Prop), Rl X.K wd F cs H → RS X.K wd τ σ →
  wpEs as τ cs (fun ds c1 => isp ds c1 fun items grd => R' items grd c1) PX → (∀ wd1 items grd c1 J H1, wd.le wd1 → Rl X.K wd1 F c1 H1 → ItOk X wd1 F items grd J → R' items grd c1 → R J H1) → XOk X W wd F σ PX → wi σ H R
def JI (X : Cx) (W : WX) (tg iter : Expr) (isp : ISpec) (as : Es) : Prop := ∃ wi, PI X tg iter wi ∧ RefI X W wi isp as
theorem js_for {tg iter : Expr} {pt : Pat} {own : List Nat} {isp : ISpec} {as : Es} (hp : PassesOwn (model X.prog X.w) X.A X.env X.xe) (hc : X.calm = true) (hi : JI X W tg iter isp as) (hg : JG X tg pt own) (hb : JSs X W sts s1)
    (hs : ∀ x, foldedSetIterable iter X.env x = pure x := by intro _; rfl) : JS X W (.For tg iter sts [] pos) (.fr pt isp as s1) := by
  obtain ⟨wi, p0, r0⟩ := hi
  obtain ⟨g, p1, r1⟩ := hg
  obtain ⟨t, p2, r2⟩ := hb
  refine ⟨_, ps_for hp hc p0 p1 p2 hs, fun wd F τ cs σ H P Q R rs h q => ?_⟩
  refine r0 wd F τ cs σ H (fun items grd c1 => forL pt grd (wpS s1) P items τ c1) _ _ R rs h (fun wd1 items grd c1 J H1 l1 R1 it h1 => ?_) (q.xok rs)
  refine ⟨fun i m σ' H' => ∃ wd' τ' cs', wd1.le wd' ∧ Rl X.K wd' F cs' H' ∧ RS X.K wd' τ' σ' ∧ m = items.length - i ∧ i ≤ items.length ∧ forL pt grd (wpS s1) P (items.drop i) τ' cs', ⟨items.length, wd1, τ, c1, Wd.le.refl _, R1, rs.mono l1, by simp, Nat.zero_le _, h1⟩, ?_⟩
  rintro i m σ' H' ⟨wd', τ', cs', l', R', rs', em, hle, h'⟩
  by_cases hi : i < items.length
  · have ed : items.drop i = items[i] :: items.drop (i + 1) := List.drop_eq_getElem_cons hi
    rw [ed] at h'
    obtain ⟨hg, h'⟩ := h'
    obtain ⟨g0, gy⟩ := it.go wd' F cs' H' i items[i] l' R' hg (List.getElem?_eq_getElem hi)
    cases eb : bindP pt [items[i]] τ' with
    | none => rw [eb] at h'; exact h'.elim
    | some τ1 =>
      rw [eb] at h'
      refine .inr ⟨g0, fun σ2 H2 => ∃ wd' τ' cs', wd1.le wd' ∧ Rl X.K wd' F cs' H2 ∧ RS X.K wd' τ' σ2 ∧ forL pt grd (wpS s1) P (items.drop (i + 1)) τ' cs', fun σ2 H2 ⟨wd2, τ2, c2, l2, R2, rs2, h2⟩ => ⟨items.length - (i + 1), by omega, wd2, τ2, c2, l2, R2, rs2, rfl, hi, h2⟩, fun x H2 y => ?_⟩
      obtain ⟨wd2, l2, R2, rv⟩ := gy x H2 y
      refine r1 wd2 F τ' cs' σ' H2 items[i] x τ1 _ R2 (rs'.mono l2) rv eb fun σ3 rs3 _ => ?_
      have l12 := l'.trans l2
      have q2 := q.mono (l1.trans l12)
      exact r2 wd2 F τ1 cs' σ3 H2 _ _ R2 rs3 h' ⟨fun wd4 τ4 c4 σ4 H4 l4 R4 rs4 h4 => ⟨wd4, τ4, c4, l12.trans l4, R4, rs4, h4⟩, q2.nx, fun wd4 τ4 c4 σ4 H4 l4 R4 rs4 h4 => ⟨wd4, τ4, c4, l12.trans l4, R4, rs4, h4⟩, q2.rt, q2.ex⟩
  · have ei : i = items.length := by omega
    subst ei
    rw [List.drop_length] at h'
    exact .inl ⟨it.stop wd' F cs' H' l' R' h'.1, q.nx wd' τ' cs' σ' H' (l1.trans l') R' rs' h'.2⟩
end
end G

/-! GIter: lists, tuples, ranges, zips walked; comprehensions. -/
namespace G
open PySem PySem.Spec L2
open Evl (Ex)
section
variable {X : Cx} {W : WX} {pos : Pos} {a b c e : Expr} {ca cb cc ce : E} {K : PySem.W.Frag} {p : Pos} {rest : List Expr} {s s1 s2 : S} {st : Stmt} {sts : List Stmt}
/-- a list that stays as the guard says -/
theorem Rl.staysL {wd : Wd} {F H : Hp} {cs : Cs} (R : Rl K wd F cs H) {d : D} {v : V} {xs : List D} (r : Rp K wd d v) (h : G.getL d cs = some xs) :
    ∃ a, v = .ref a ∧ ∀ wd' F' cs' H', wd.le wd' → Rl K wd' F' cs' H' → grdL d cs cs' → ∃ vs, H' a = some (.lst vs) ∧ RpL K wd' xs vs := by
  obtain ⟨a, vs, e, s, q⟩ := R.getL r h
  refine ⟨a, e, fun wd' F' cs' H' l R' g => ?_⟩
  have h' : G.getL d cs' = some xs := by
    cases d with
    | ref n =>
      have g : cs' n = cs n := g
      unfold G.getL at h ⊢
      simp only [g]
      exact h
    | lst ys => exact h
    | _ => cases h
  obtain ⟨a', vs', e', s', q'⟩ := R'.getL (r.mono l) h'
  rw [e] at e'
  cases e'
  exact ⟨vs', s', q'⟩
theorem Rl.staysT {wd : Wd} {F H : Hp} {cs : Cs} (R : Rl K wd F cs H) {v : V} {xs : List D} (r : Rp K wd (.tup xs) v) :
    ∃ a, v = .ref a ∧ ∀ wd' F' cs' H', wd.le wd' → Rl K wd' F' cs' H' → ∃ vs, SqT K H' a vs ∧ RpL K wd' xs vs := by
  obtain ⟨a, vs, e, s, q⟩ := r
  exact ⟨a, e, fun wd' F' cs' H' l R' => ⟨vs, SqT.of ((l.B.trans R'.b) _ _ s), RpL.mono l _ _ q⟩⟩
theorem getQ_cases {d : D} {cs : Cs} {xs : List D} (h : getQ d cs = some xs) : d = .tup xs ∨ getL d cs = some xs := by
  cases d with
  | tup ys => cases h; exact .inl rfl
  | lst ys => exact .inr h
  | ref n => exact .inr h
  | _ => cases h
/-- over a list or a tuple -/
def iSeqA (K : PySem.W.Frag) (tl : TE) : TI := fun σ H R => tl σ H fun x H1 => ∃ a, x = .ref a ∧ (((∃ xs, SqL K H1 a xs) ∧ R (Itl K a) H1) ∨ ((∃ xs, SqT K H1 a xs) ∧ R (Itt K a) H1))
theorem pi_seqA {tg l : Expr} {tl : TE} (hl : PE X l tl) : PI X tg l (iSeqA X.K tl) := by
  refine ⟨fun pins s σ H R I h => thn (hl.run pins s σ H _ I h) fun v s1 z => ?_⟩
  obtain ⟨x, H1, I1, rx, a, ex, q1⟩ := z
  subst ex
  obtain rfl : v = Value.ref a := rx
  have fresh : ∀ b ∈ [s1.heap.objs.size], FpOk X pins H1 b := fun b hb => by
    rw [List.mem_singleton.mp hb]
    exact I1.fpOk (Nat.le_refl _) (I1.hok.fresh (Nat.le_refl _))
  rcases q1 with ⟨⟨xs, hq⟩, q⟩ | ⟨⟨xs, hq⟩, q⟩
  · obtain ⟨its, rv, pl, hz⟩ := I1.list hq
    exact wpAny_pyIter_list pl.isList ⟨s1.heap.objs.size, [s1.heap.objs.size], _, _, H1, rfl, I1.kept (t' := s1.toks) fun b o e => Heap.get?_push_of_some _ e, turn_list a _, ⟨_, Heap.get?_push_size _ rfl, rfl, rfl⟩, fresh, q⟩
  · obtain ⟨its, rv, pl, hz⟩ := I1.tuple hq
    exact wpAny_pyIter_tuple (show s1.heap.IsTuple a its.toArray from pl) ⟨s1.heap.objs.size, [s1.heap.objs.size], _, _, H1, rfl, I1.kept (t' := s1.toks) fun b o e => Heap.get?_push_of_some _ e, turn_tuple a _, ⟨_, Heap.get?_push_size _ rfl, rfl, rfl⟩, fresh, q⟩
theorem itOk_list {wd : Wd} {F : Hp} {xs : List D} {grd : Cs → Prop} {a : Addr} (h : ∀ wd' F' cs' H', wd.le wd' → Rl X.K wd' F' cs' H' → grd cs' → ∃ vs, H' a = some (.lst vs) ∧ RpL X.K wd' xs vs) : ItOk X wd F xs grd (Itl X.K a) := by
  refine ⟨fun wd' F' cs H i d l R g hd => ?_, fun wd' F' cs H l R g => ?_⟩
  · obtain ⟨vs, hv, r⟩ := h wd' F' cs H l R g
    obtain ⟨v, h1, h2⟩ := r.get hd
    refine ⟨⟨vs, v, SqL.of hv, h1⟩, fun x H' ⟨e, y⟩ => ?_⟩
    subst e
    have := y vs (SqL.of hv)
    rw [h1] at this
    cases this
    exact ⟨wd', Wd.le.refl _, R, h2⟩
  · obtain ⟨vs, hv, r⟩ := h wd' F' cs H l R g
    exact ⟨vs, SqL.of hv, by rw [r.length]; exact Nat.le_refl _⟩
theorem itOk_tup {wd : Wd} {F : Hp} {xs : List D} {grd : Cs → Prop} {a : Addr} (h : ∀ wd' F' cs' H', wd.le wd' → Rl X.K wd' F' cs' H' → ∃ vs, SqT X.K H' a vs ∧ RpL X.K wd' xs vs) : ItOk X wd F xs grd (Itt X.K a) := by
  refine ⟨fun wd' F' cs H i d l R g hd => ?_, fun wd' F' cs H l R g => ?_⟩
  · obtain ⟨vs, hv, r⟩ := h wd' F' cs H l R
    obtain ⟨v, h1, h2⟩ := r.get hd
    refine ⟨⟨vs, v, hv, h1⟩, fun x H' ⟨e, y⟩ => ?_⟩
    subst e
    have := y vs hv
    rw [h1] at this
    cases this
    exact ⟨wd', Wd.le.refl _, R, h2⟩
  · obtain ⟨vs, hv, r⟩ := h wd' F' cs H l R
    exact ⟨vs, hv, by rw [r.length]; exact Nat.le_refl _⟩
theorem ji_seq {tg : Expr} (h : JE X W e ce) : JI X W tg e iSeq (.cons ce .nil) := by
  obtain ⟨te, p1, r1⟩ := h
  refine ⟨_, pi_seqA p1, fun wd F τ cs σ H R' PX Q R rs h q x => ?_⟩
  refine r1 wd F τ cs σ H _ PX _ R rs h (fun wd1 d c1 v H1 l1 R1 rv h1 => ?_) x
  have h1 : (match getQ d c1 with
    | some xs => R' xs (grdL d c1) c1
    | none => False) := h1
  cases eq : getQ d c1 with
  | none => rw [eq] at h1; exact h1.elim
  | some xs =>
    rw [eq] at h1
    rcases getQ_cases eq with ed | el
    · subst ed
      obtain ⟨a, ev, st⟩ := R1.staysT rv
      obtain ⟨vs, hv, _⟩ := st wd1 F c1 H1 (Wd.le.refl _) R1
      exact ⟨a, ev, .inr ⟨⟨vs, hv⟩, q wd1 xs _ c1 _ H1 l1 R1 (itOk_tup st) h1⟩⟩
    · obtain ⟨a, ev, st⟩ := R1.staysL rv el
      obtain ⟨vs, hv, _⟩ := st wd1 F c1 H1 (Wd.le.refl _) R1 (by unfold grdL; split <;> trivial)
      exact ⟨a, ev, .inl ⟨⟨vs, SqL.of hv⟩, q wd1 xs _ c1 _ H1 l1 R1 (itOk_list st) h1⟩⟩
theorem itOk_rng {wd : Wd} {F : Hp} (a b : Int) : ItOk X wd F (rgD a b) (fun _ => True) (Itr a (b - a).toNat) := by
  have hl : (rgD a b).length = (b - a).toNat := by unfold rgD; simp
  refine ⟨fun wd' F' cs H i d l R g hd => ?_, fun wd' F' cs H l R g => ?_⟩
  · have hi : i < (rgD a b).length := (List.getElem?_eq_some_iff.mp hd).1
    refine ⟨by show i < _; omega, fun x H' ⟨e, y⟩ => ?_⟩
    subst e y
    refine ⟨wd', Wd.le.refl _, R, ?_⟩
    unfold rgD at hd
    rw [List.getElem?_map, List.getElem?_range (by omega)] at hd
    cases hd
    rfl
  · show (b - a).toNat ≤ _
    rw [hl]
    exact Nat.le_refl _
theorem iRng1_inv {ds : List D} {cs : Cs} {R : List D → (Cs → Prop) → Prop} (h : iRng1 ds cs R) : ∃ j, ds = [.int j] ∧ -(2 ^ 62) ≤ j ∧ j < 2 ^ 62 ∧ R (rgD 0 j) (fun _ => True) := by
  unfold iRng1 at h
  split at h
  · exact ⟨_, rfl, h.1, h.2.1, h.2.2⟩
  · exact h.elim
theorem iZip_inv {ds : List D} {cs : Cs} {R : List D → (Cs → Prop) → Prop} (h : iZip ds cs R) : ∃ x y, ds = [x, y] ∧ ((∃ xs ys, x = .tup xs ∧ y = .tup ys ∧ R (zipD xs ys) (fun _ => True)) ∨ (∃ xs ys, getL x cs = some xs ∧ getL y cs = some ys ∧ R (zipD xs ys) (fun c => grdL x cs c ∧ grdL y cs c))) := by
  unfold iZip at h
  split at h
  · rename_i x y
    refine ⟨x, y, rfl, ?_⟩
    split at h
    · exact .inl ⟨_, _, rfl, rfl, h⟩
    · split at h
      · rename_i h1 h2
        exact .inr ⟨_, _, h1, h2, h⟩
      · exact h.elim
  · exact h.elim
theorem ji_rng1 {tg : Expr} (hg : Gl X "range") (hm : X.mg "range" = none) (h : JE X W a ca) (h1 : starEach [a] X.env = [(false, eval a X.env)] := by rfl) : JI X W tg (.Call (.Name "range" p) [a] [] pos) iRng1 (.cons ca .nil) := by
  obtain ⟨ta, p1, r1⟩ := ja_cons h ja_nil h1
  refine ⟨_, pi_range1 hg hm p1 h1, fun wd F τ cs σ H R' PX Q R rs h q x => ?_⟩
  refine r1 wd F τ cs σ H _ PX _ R rs h (fun wd1 ds c1 vs H1 l1 R1 rv h1 => ?_) x
  obtain ⟨j, ed, b1, b2, h2⟩ := iRng1_inv h1
  subst ed
  obtain ⟨v, e, rv⟩ := rv.one
  refine ⟨j, by rw [e, show v = _ from rv], b1, b2, ?_⟩
  have z := q wd1 (rgD 0 j) _ c1 (Itr 0 (j - 0).toNat) H1 l1 R1 (itOk_rng 0 j) h2
  rw [Int.sub_zero] at z
  exact z
theorem zipD_get : ∀ {xs ys : List D} {i : Nat} {d : D}, (zipD xs ys)[i]? = some d → ∃ x y, xs[i]? = some x ∧ ys[i]? = some y ∧ d = .tup [x, y]
  | [], _, _, _, h => by simp [zipD] at h
  | _ :: _, [], _, _, h => by simp [zipD] at h
  | x :: xs, y :: ys, 0, d, h => by
    simp [zipD] at h
    exact ⟨x, y, rfl, rfl, h.symm⟩
  | x :: xs, y :: ys, i + 1, d, h => by
    obtain ⟨x', y', h1, h2, h3⟩ := zipD_get (i := i) (d := d) (by simpa [zipD] using h)
    exact ⟨x', y', by simpa using h1, by simpa using h2, h3⟩
theorem zipD_len : ∀ (xs ys : List D), (zipD xs ys).length = min xs.length ys.length
  | [], _ => by simp [zipD]
  | _ :: _, [] => by simp [zipD]
  | x :: xs, y :: ys => by simp [zipD, zipD_len xs ys]
theorem ji_zip {tpos : Pos} {elts : List Expr} {kk : Nat} (hg : Gl X "zip") (hm : X.mg "zip" = none) (ha : JE X W a ca) (hb : JE X W b cb)
    (h1 : starEach [a, b] X.env = (false, eval a X.env) :: starEach [b] X.env := by rfl) (h2 : starEach [b] X.env = (false, eval b X.env) :: starEach [] X.env := by rfl) (hpl : (backTo pos (starEach [b] X.env)).any (·.1) = false := by rfl) :
    JI X W (.Tuple elts kk tpos) (.Call (.Name "zip" p) [a, b] [] pos) iZip (.cons ca (.cons cb .nil)) := by
  obtain ⟨ta, p1, r1⟩ := ja_cons ha (ja_cons hb ja_nil h2) h1
  refine ⟨_, RZ.pi_zipA hg hm p1 h1 hpl, fun wd F τ cs σ H R' PX Q R rs h q x => ?_⟩
  refine r1 wd F τ cs σ H _ PX _ R rs h (fun wd1 ds c1 vs H1 l1 R1 rv h1 => ?_) x
  obtain ⟨dx, dy, ed, h3⟩ := iZip_inv h1
  subst ed
  obtain ⟨v, w, e, rv1, rv2⟩ := rv.two
  rcases h3 with ⟨xs, ys, e1, e2, h3⟩ | ⟨xs, ys, ex, ey, h3⟩
  · subst e1 e2
    obtain ⟨a1, ea, sa⟩ := R1.staysT rv1
    obtain ⟨b1, eb, sb⟩ := R1.staysT rv2
    obtain ⟨ws, hw, _⟩ := sa wd1 F c1 H1 (Wd.le.refl _) R1
    obtain ⟨zs, hz, _⟩ := sb wd1 F c1 H1 (Wd.le.refl _) R1
    refine ⟨a1, b1, ws, zs, by rw [e, ea, eb], .inr ⟨hw, hz, q wd1 _ _ c1 _ H1 l1 R1 ⟨fun wd' F' cs' H' i d l R g hd => ?_, fun wd' F' cs' H' l R g => ?_⟩ h3⟩⟩
    · obtain ⟨x, y, hx, hy, ed⟩ := zipD_get hd
      obtain ⟨ws, hw, rw'⟩ := sa wd' F' cs' H' l R
      obtain ⟨zs, hz, rz⟩ := sb wd' F' cs' H' l R
      obtain ⟨u, hu, ru⟩ := rw'.get hx
      obtain ⟨t, ht, rt⟩ := rz.get hy
      refine ⟨⟨ws, zs, u, t, hw, hz, hu, ht⟩, fun v' H2 ⟨T, x', y', ev, hT, eH, f1, f2⟩ => ?_⟩
      have e1 := f1 ws hw
      have e2 := f2 zs hz
      rw [hu] at e1
      rw [ht] at e2
      cases e1
      cases e2
      subst ev eH ed
      obtain ⟨wd'', l2, R2, r2⟩ := R.tup (ds := [x, y]) hT ⟨u, [t], rfl, ru, t, [], rfl, rt, rfl⟩
      exact ⟨wd'', l2, R2, r2⟩
    · obtain ⟨ws, hw, rw'⟩ := sa wd' F' cs' H' l R
      obtain ⟨zs, hz, rz⟩ := sb wd' F' cs' H' l R
      refine ⟨ws, zs, hw, hz, ?_⟩
      rw [zipD_len, rw'.length, rz.length]
      omega
  · obtain ⟨a1, ea, sa⟩ := R1.staysL rv1 ex
    obtain ⟨b1, eb, sb⟩ := R1.staysL rv2 ey
    have g0 : ∀ d : D, grdL d c1 c1 := fun d => by unfold grdL; split <;> trivial
    obtain ⟨ws, hw, _⟩ := sa wd1 F c1 H1 (Wd.le.refl _) R1 (g0 _)
    obtain ⟨zs, hz, _⟩ := sb wd1 F c1 H1 (Wd.le.refl _) R1 (g0 _)
    refine ⟨a1, b1, ws, zs, by rw [e, ea, eb], .inl ⟨SqL.of hw, SqL.of hz, q wd1 _ _ c1 _ H1 l1 R1 ⟨fun wd' F' cs' H' i d l R g hd => ?_, fun wd' F' cs' H' l R g => ?_⟩ h3⟩⟩
    · obtain ⟨x, y, hx, hy, ed⟩ := zipD_get hd
      obtain ⟨ws, hw, rw'⟩ := sa wd' F' cs' H' l R g.1
      obtain ⟨zs, hz, rz⟩ := sb wd' F' cs' H' l R g.2
      obtain ⟨u, hu, ru⟩ := rw'.get hx
      obtain ⟨t, ht, rt⟩ := rz.get hy
      refine ⟨⟨ws, zs, u, t, SqL.of hw, SqL.of hz, hu, ht⟩, fun v' H2 ⟨T, x', y', ev, hT, eH, f1, f2⟩ => ?_⟩
      have e1 := f1 ws (SqL.of hw)
      have e2 := f2 zs (SqL.of hz)
      rw [hu] at e1
      rw [ht] at e2
      cases e1
      cases e2
      subst ev eH ed
      obtain ⟨wd'', l2, R2, r2⟩ := R.tup (ds := [x, y]) hT ⟨u, [t], rfl, ru, t, [], rfl, rt, rfl⟩
      exact ⟨wd'', l2, R2, r2⟩
    · obtain ⟨ws, hw, rw'⟩ := sa wd' F' cs' H' l R g.1
      obtain ⟨zs, hz, rz⟩ := sb wd' F' cs' H' l R g.2
      refine ⟨ws, zs, SqL.of hw, SqL.of hz, ?_⟩
      rw [zipD_len, rw'.length, rz.length]
      omega
end
end G

/-! GComp: list comprehensions. -/
namespace G
open PySem PySem.Spec L2
open Evl (Ex)
section
variable {K : PySem.W.Frag} {wd : Wd} {F H : Hp} {cs : Cs} {q : Addr}
theorem fe_upd (fe : ∀ a o, F a = some o → NT o) (ys : List V) : ∀ a o, upd F q (.lst ys) a = some o → NT o := fun a o e => by
  by_cases h : a = q
  · subst h
    rw [upd_same] at e
    rw [← Option.some.inj e]
    exact NT.lst
  · rw [upd_ne h] at e
    exact fe a o e
theorem fe_back {o : HO} (fe : ∀ a u, upd F q o a = some u → NT u) (fn : F q = none) : ∀ a u, F a = some u → NT u := fun a u e => fe a u ((upd_ne (ne_of_none e fn)).trans e)
theorem Rl.fNew (R : Rl K wd F cs H) (hp : H q = none) (ys : List V) : Rl K wd (upd F q (.lst ys)) cs (upd H q (.lst ys)) := by
  have bn := R.bnone hp
  refine ⟨fun a u e => ?_, fun a u e => ?_, fun a u e => ?_, R.inj, fun n u e => ?_, fun n a e => ?_, R.top, fun n a e => ?_, fe_upd R.fe ys, R.tabNew hp (Ex.refl _), R.bt⟩
  · exact (upd_ne (ne_of_none e bn)).trans (R.b a u e)
  · by_cases h : a = q
    · subst h
      rw [upd_same] at e ⊢
      exact e
    · rw [upd_ne h] at e ⊢
      exact R.f a u e
  · exact (upd_ne (ne_of_none e bn)).trans (R.bf a u e)
  · obtain ⟨a, v, e1, e2, e3, e4, e5⟩ := R.cell n u e
    have ne : a ≠ q := ne_of_none e4 hp
    exact ⟨a, v, e1, e2, (upd_ne ne).trans e3, (upd_ne ne).trans e4, e5⟩
  · obtain ⟨u, hu, hn⟩ := R.ran n a e
    exact ⟨u, (upd_ne (ne_of_none hu hp)).trans hu, hn⟩
  · obtain ⟨u, hu, _⟩ := R.ran n a e
    exact (upd_ne (ne_of_none hu hp)).trans (R.rf n a e)
theorem Rl.fPut {o : HO} (R : Rl K wd (upd F q o) cs H) (ys : List V) : Rl K wd (upd F q (.lst ys)) cs (upd H q (.lst ys)) := by
  have fq : upd F q o q = some o := upd_same
  have fe : ∀ a u, upd F q (.lst ys) a = some u → NT u := fun a u e => by
    by_cases h : a = q
    · subst h
      rw [upd_same] at e
      rw [← Option.some.inj e]
      exact NT.lst
    · rw [upd_ne h] at e
      exact R.fe a u ((upd_ne h).trans e)
  have bn : wd.B q = none := by
    cases e : wd.B q with
    | none => rfl
    | some u =>
      have := R.bf q u e
      rw [fq] at this
      cases this
  refine ⟨fun a u e => ?_, fun a u e => ?_, fun a u e => ?_, R.inj, fun n u e => ?_, fun n a e => ?_, R.top, fun n a e => ?_, fe, fun p hp => ?_, R.bt⟩
  · exact (upd_ne (ne_of_none e bn)).trans (R.b a u e)
  · by_cases h : a = q
    · subst h
      rw [upd_same] at e ⊢
      exact e
    · rw [upd_ne h] at e ⊢
      exact R.f a u ((upd_ne h).trans e)
  · have h : a ≠ q := ne_of_none e bn
    exact (upd_ne h).trans ((upd_ne h).symm.trans (R.bf a u e))
  · obtain ⟨a, v, e1, e2, e3, e4, e5⟩ := R.cell n u e
    have ne : a ≠ q := fun z => by
      subst z
      rw [fq] at e3
      cases e3
    exact ⟨a, v, e1, e2, (upd_ne ne).trans ((upd_ne ne).symm.trans e3), (upd_ne ne).trans e4, e5⟩
  · obtain ⟨u, hu, hn⟩ := R.ran n a e
    by_cases h : a = q
    · subst h
      exact ⟨_, upd_same, fun z y => by cases y⟩
    · exact ⟨u, (upd_ne h).trans hu, hn⟩
  · have ne : a ≠ q := fun z => by
      subst z
      have := R.rf n _ e
      rw [fq] at this
      cases this
    exact (upd_ne ne).trans ((upd_ne ne).symm.trans (R.rf n a e))
  · obtain ⟨ps, h1, h2, h3⟩ := R.tab p hp
    have ne : q ≠ p.1 := R.notbl h1 (R.f q o fq) (R.fe q o fq).1
    exact ⟨ps, (upd_ne (Ne.symm ne)).trans h1, h2, h3⟩
theorem Rl.fTree {ds : List D} {vs : List V} (R : Rl K wd (upd F q (.lst vs)) cs H) (fn : F q = none) (r : RpL K wd ds vs) : ∃ wd', wd.le wd' ∧ Rl K wd' F cs H ∧ Rp K wd' (.lst ds) (.ref q) := by
  have fq : upd F q (.lst vs) q = some (.lst vs) := upd_same
  have hq : H q = some (.lst vs) := R.f q _ fq
  have bn : wd.B q = none := by
    cases e : wd.B q with
    | none => rfl
    | some u =>
      have := R.bf q u e
      rw [fq] at this
      cases this
  have le : wd.le ⟨upd wd.B q (.lst vs), wd.r, wd.k⟩ := ⟨Ex.new bn, fun _ _ h => h⟩
  refine ⟨_, le, ⟨fun a u e => ?_, fun a u e => ?_, fun a u e => ?_, R.inj, fun n u e => ?_, R.ran, R.top, fun n a e => ?_, fe_back R.fe fn, fun p hp => let ⟨ps, h1, h2, h3⟩ := R.tab p hp; ⟨ps, h1, h2, fun pos cv e => let ⟨c, e1, e2⟩ := h3 pos cv e; ⟨c, e1, le.B _ _ e2⟩⟩, R.btNew (fun q z => by cases z)⟩, q, vs, rfl, upd_same, RpL.mono le _ _ r⟩
  · have e : upd wd.B q (.lst vs) a = some u := e
    by_cases h : a = q
    · subst h
      rw [upd_same] at e
      rw [← e]
      exact hq
    · rw [upd_ne h] at e
      exact R.b a u e
  · have h : a ≠ q := ne_of_none e fn
    exact R.f a u ((upd_ne h).trans e)
  · have e : upd wd.B q (.lst vs) a = some u := e
    by_cases h : a = q
    · subst h
      exact fn
    · rw [upd_ne h] at e
      exact (upd_ne h).symm.trans (R.bf a u e)
  · obtain ⟨a, v, e1, e2, e3, e4, e5⟩ := R.cell n u e
    have ne : a ≠ q := fun z => by
      subst z
      rw [fq] at e3
      cases e3
    exact ⟨a, v, e1, (upd_ne ne).trans e2, (upd_ne ne).symm.trans e3, e4, e5.mono le⟩
  · by_cases h : a = q
    · rw [h]
      exact fn
    · exact (upd_ne h).symm.trans (R.rf n a e)
theorem Rl.fCell {ds : List D} {vs : List V} (R : Rl K wd (upd F q (.lst vs)) cs H) (fn : F q = none) (r : RpL K wd ds vs) : ∃ n wd', cs n = none ∧ wd.le wd' ∧ Rl K wd' F (put cs n (.lst ds)) H ∧ Rp K wd' (.ref n) (.ref q) := by
  have fq : upd F q (.lst vs) q = some (.lst vs) := upd_same
  have hq : H q = some (.lst vs) := R.f q _ fq
  have bn : wd.B q = none := by
    cases e : wd.B q with
    | none => rfl
    | some u =>
      have := R.bf q u e
      rw [fq] at this
      cases this
  have nr : ∀ n, wd.r n ≠ some q := fun n z => by
    have := R.rf n q z
    rw [fq] at this
    cases this
  have rk : wd.r wd.k = none := R.top wd.k (Nat.le_refl _)
  have le : wd.le ⟨wd.B, fun m => if m = wd.k then some q else wd.r m, wd.k + 1⟩ := ⟨Ex.refl _, fun m b e => by
    show (if m = wd.k then some q else wd.r m) = some b
    by_cases hm : m = wd.k
    · rw [hm, rk] at e
      cases e
    · rw [if_neg hm]
      exact e⟩
  have ck : cs wd.k = none := by
    cases z : cs wd.k with
    | none => rfl
    | some o =>
      obtain ⟨a, v, e1, _⟩ := R.cell _ _ z
      rw [rk] at e1
      cases e1
  refine ⟨wd.k, _, ck, le, ⟨R.b, fun a u e => R.f a u ((upd_ne (ne_of_none e fn)).trans e), fun a u e => ?_, fun n m a e1 e2 => ?_, fun m w e => ?_, fun m b e => ?_, fun m hm => ?_, fun m b e => ?_, fe_back R.fe fn, R.tab, R.bt⟩, q, if_pos rfl, rfl⟩
  · have h : a ≠ q := ne_of_none e bn
    exact (upd_ne h).symm.trans (R.bf a u e)
  · have e1 : (if n = wd.k then some q else wd.r n) = some a := e1
    have e2 : (if m = wd.k then some q else wd.r m) = some a := e2
    by_cases hn : n = wd.k
    · by_cases hm : m = wd.k
      · rw [hn, hm]
      · rw [if_pos hn] at e1
        rw [if_neg hm] at e2
        cases e1
        exact absurd e2 (nr m)
    · by_cases hm : m = wd.k
      · rw [if_pos hm] at e2
        rw [if_neg hn] at e1
        cases e2
        exact absurd e1 (nr n)
      · rw [if_neg hn] at e1
        rw [if_neg hm] at e2
        exact R.inj n m a e1 e2
  · by_cases hm : m = wd.k
    · subst hm
      have ew : Ob.lst ds = w := by
        unfold put at e
        rw [if_pos rfl] at e
        exact Option.some.inj e
      subst ew
      exact ⟨q, .lst vs, if_pos rfl, bn, fn, hq, vs, rfl, RpL.mono le _ _ r⟩
    · unfold put at e
      rw [if_neg hm] at e
      obtain ⟨b, x, f1, f2, f3, f4, f5⟩ := R.cell m w e
      have ne : b ≠ q := fun z => nr m (by rw [← z]; exact f1)
      exact ⟨b, x, (if_neg hm).trans f1, f2, (upd_ne ne).symm.trans f3, f4, f5.mono le⟩
  · have e : (if m = wd.k then some q else wd.r m) = some b := e
    by_cases hm : m = wd.k
    · rw [if_pos hm] at e
      cases e
      exact ⟨_, hq, fun z y => by cases y⟩
    · rw [if_neg hm] at e
      exact R.ran m b e
  · have hm : wd.k + 1 ≤ m := hm
    show (if m = wd.k then some q else wd.r m) = none
    rw [if_neg (by omega)]
    exact R.top m (by omega)
  · have e : (if m = wd.k then some q else wd.r m) = some b := e
    by_cases hm : m = wd.k
    · rw [if_pos hm] at e
      cases e
      exact fn
    · rw [if_neg hm] at e
      have ne : b ≠ q := fun z => nr m (by rw [← z]; exact e)
      exact (upd_ne ne).symm.trans (R.rf m b e)
end
theorem wipeG_some {τ : Sl} : ∀ {own : List Nat} {i : Nat} {d : D}, getV (wipe τ own) i = some d → getV τ i = some d ∧ i ∉ own
  | [], i, d, h => ⟨h, by simp⟩
  | j :: own, i, d, h => by
    have h : getV ((wipe τ own).set j none) i = some d := h
    rw [getV_eq] at h
    by_cases e : i = j
    · subst e
      by_cases hl : i < (wipe τ own).length
      · rw [List.getElem?_set_self hl] at h
        cases h
      · rw [List.getElem?_eq_none (by simp; omega)] at h
        cases h
    · rw [List.getElem?_set_ne (Ne.symm e), ← getV_eq] at h
      obtain ⟨h1, h2⟩ := wipeG_some h
      exact ⟨h1, by simp [e, h2]⟩
theorem wipeG_len (τ : Sl) : ∀ own : List Nat, (wipe τ own).length = τ.length
  | [] => rfl
  | j :: own => by
    show ((wipe τ own).set j none).length = _
    rw [List.length_set, wipeG_len τ own]
theorem RS.wipe {K : PySem.W.Frag} {wd : Wd} {τ : Sl} {σ : St} (h : RS K wd τ σ) (own : List Nat) : RS K wd (G.wipe τ own) (L2.wipe σ own) := by
  refine ⟨by rw [wipeG_len, L2.wipe_length]; exact h.len, fun i d e => ?_⟩
  obtain ⟨e1, e2⟩ := wipeG_some e
  obtain ⟨v, hv, r⟩ := h.at_ i d e1
  exact ⟨v, by rw [L2.wipe_out e2]; exact hv, r⟩
theorem wipe_idem (σ : St) (own : List Nat) : L2.wipe (L2.wipe σ own) own = L2.wipe σ own := by
  apply List.ext_getElem?
  intro k
  by_cases hk : k ∈ own
  · rw [wipe_in hk, wipe_in hk, L2.wipe_length]
  · rw [L2.wipe_out hk]
def W0 : WX := fun _ _ _ _ => False
def JTs (X : Cx) (W : WX) (ifs : List Expr) (c : E) : Prop := ∃ tt, PTs X ifs tt ∧ RefT X W tt c
section
variable {X : Cx} {W : WX} {pos : Pos} {a b c e : Expr} {ca cb cc ce : E} {p : Pos}
theorem jts_nil : JTs X W [] (.c (.bl true)) := ⟨_, pts_nil, fun wd F τ cs σ H P PX Q R rs h q x => by
  obtain ⟨k, e, hq⟩ := q wd (.bl true) cs H (Wd.le.refl _) R h
  cases e
  exact hq⟩
abbrev Cx.bk (X : Cx) (scope : Scope) (s : Shared) (H : Hp) (C : Addr) (cl : List (Str × Addr)) (fp : List Addr) : Cx := X.blk s H scope (compEnvC scope cl C X.env) fp
theorem comp_core (m : Bool) {elt tg iter : Expr} {ifs : List Expr} {scope : Scope} {own : List (Str × Nat)} {isp : ISpec} {as : Es} {pt : Pat} (hc : X.calm = true) (hN : X.N.Nodup) (hi : JI X W tg iter isp as) (ok : BlkOk X.N X.env.scope scope own)
    (hg : ∀ (s : Shared) (H : Hp) (C : Addr) (cl : List (Str × Addr)) (fp : List Addr), JG (X.blk s H scope (compEnvC scope cl C X.env) fp) tg pt (own.map (·.2)))
    (ht : ∀ (s : Shared) (H : Hp) (C : Addr) (cl : List (Str × Addr)) (fp : List Addr), JTs (X.blk s H scope (compEnvC scope cl C X.env) fp) W0 ifs cc)
    (he : ∀ (s : Shared) (H : Hp) (C : Addr) (cl : List (Str × Addr)) (fp : List Addr), JE (X.blk s H scope (compEnvC scope cl C X.env) fp) W0 elt ce) (hs : ∀ x, foldedSetIterable iter X.env x = pure x := by intro _; rfl) :
    ∃ te, PE X (.ListComp elt [⟨tg, iter, ifs, 0⟩] scope pos) te ∧ RefE X W te (.comp m (own.map (·.2)) pt isp as cc ce) ∧
      ∀ (i : Nat) (y : Str) (py spos : Pos), X.N[i]? = some y → X.env.scope.names.lookup y = some .local → swapsWith (.ListComp elt [⟨tg, iter, ifs, 0⟩] scope pos) (some (.Name y py)) spos.line X.env = pure true →
        PS X (.Assign [.Name y py] (.ListComp elt [⟨tg, iter, ifs, 0⟩] scope pos) spos) (tAsg te (gName i)) := by
  obtain ⟨wi, p0, r0⟩ := hi
  let uG : TG := fun v σ H Q => ∀ (s : Shared) (H0 : Hp) (C : Addr) (cl : List (Str × Addr)) (fp : List Addr) (g : TG), PG (X.blk s H0 scope (compEnvC scope cl C X.env) fp) tg g → RefG (X.blk s H0 scope (compEnvC scope cl C X.env) fp) g pt (own.map (·.2)) → g v σ H Q
  let uT : TT := fun σ H Q => ∀ (s : Shared) (H0 : Hp) (C : Addr) (cl : List (Str × Addr)) (fp : List Addr) (t : TT), PTs (X.blk s H0 scope (compEnvC scope cl C X.env) fp) ifs t → RefT (X.blk s H0 scope (compEnvC scope cl C X.env) fp) W0 t cc → t σ H Q
  let uE : TE := fun σ H Q => ∀ (s : Shared) (H0 : Hp) (C : Addr) (cl : List (Str × Addr)) (fp : List Addr) (t : TE), PE (X.blk s H0 scope (compEnvC scope cl C X.env) fp) elt t → RefE (X.blk s H0 scope (compEnvC scope cl C X.env) fp) W0 t ce → t σ H Q
  have pG : ∀ (s : Shared) (H : Hp) (C : Addr) (cl : List (Str × Addr)) (fp : List Addr), PG (X.blk s H scope (compEnvC scope cl C X.env) fp) tg uG := fun s H0 C cl fp => by
    obtain ⟨g, p1, r1⟩ := hg s H0 C cl fp
    exact ⟨fun pins s' σ H v u Q I rv h => p1.run pins s' σ H v u Q I rv (h s H0 C cl fp g p1 r1)⟩
  have pT : ∀ (s : Shared) (H : Hp) (C : Addr) (cl : List (Str × Addr)) (fp : List Addr), PTs (X.blk s H scope (compEnvC scope cl C X.env) fp) ifs uT := fun s H0 C cl fp => by
    obtain ⟨g, p1, r1⟩ := ht s H0 C cl fp
    exact ⟨fun pins s' σ H Q I h => p1.run pins s' σ H Q I (h s H0 C cl fp g p1 r1)⟩
  have pE : ∀ (s : Shared) (H : Hp) (C : Addr) (cl : List (Str × Addr)) (fp : List Addr), PE (X.blk s H scope (compEnvC scope cl C X.env) fp) elt uE := fun s H0 C cl fp => by
    obtain ⟨g, p1, r1⟩ := he s H0 C cl fp
    exact ⟨fun pins s' σ H Q I h => p1.run pins s' σ H Q I (h s H0 C cl fp g p1 r1)⟩
  refine ⟨_, pe_lc hc hN p0 ok pG pT pE hs, fun wd F τ cs σ H P PX Q R rs h q x => ?_, fun i y py spos hy hyl hsw => ps_setLc hc hN hy hyl hsw p0 ok pG pT pE hs⟩
  have h : wpEs as τ cs (fun ds c1 => isp ds c1 fun items grd =>
      compL pt grd (G.wipe τ (own.map (·.2))) (fun σ1 c2 K => wpE cc σ1 c2 K (fun _ _ => False)) (fun σ1 c2 K => wpE ce σ1 c2 K (fun _ _ => False))
        (fun ys c3 => if m = true then ∀ n, c3 n = none → P (.ref n) (put c3 n (.lst ys)) else P (.lst ys) c3) items [] c1) PX := h
  refine r0 wd F τ cs σ H (fun items grd c1 => compL pt grd (G.wipe τ (own.map (·.2))) (fun σ1 c2 K => wpE cc σ1 c2 K (fun _ _ => False)) (fun σ1 c2 K => wpE ce σ1 c2 K (fun _ _ => False))
        (fun ys c3 => if m = true then ∀ n, c3 n = none → P (.ref n) (put c3 n (.lst ys)) else P (.lst ys) c3) items [] c1) PX _ R rs h (fun wd1 items grd c1 J H1 l1 R1 it h1 => ?_) x
  intro Dd hD
  have fn : F Dd = none := Evl.fresh_back R1.f hD
  refine ⟨fun i mm H' => ∃ wd' cs' acc vs, wd1.le wd' ∧ Rl X.K wd' (upd F Dd (.lst vs)) cs' H' ∧ RpL X.K wd' acc vs ∧ mm = items.length - i ∧ i ≤ items.length ∧
    compL pt grd (G.wipe τ (own.map (·.2))) (fun σ1 c2 K => wpE cc σ1 c2 K (fun _ _ => False)) (fun σ1 c2 K => wpE ce σ1 c2 K (fun _ _ => False))
        (fun ys c3 => if m = true then ∀ n, c3 n = none → P (.ref n) (put c3 n (.lst ys)) else P (.lst ys) c3) (items.drop i) acc cs', ⟨items.length, wd1, c1, [], [], Wd.le.refl _, R1.fNew hD _, rfl, by simp, Nat.zero_le _, h1⟩, ?_⟩
  rintro i mm H' ⟨wd', cs', acc, vs, l', R', ra, em, hle, h'⟩
  by_cases hi : i < items.length
  · have ed : items.drop i = items[i] :: items.drop (i + 1) := List.drop_eq_getElem_cons hi
    rw [ed] at h'
    obtain ⟨hgd, h'⟩ := h'
    obtain ⟨g0, gy⟩ := it.go wd' _ cs' H' i items[i] l' R' hgd (List.getElem?_eq_getElem hi)
    cases eb : bindP pt [items[i]] (G.wipe τ (own.map (·.2))) with
    | none => rw [eb] at h'; exact h'.elim
    | some τ1 =>
      rw [eb] at h'
      refine .inr ⟨g0, fun H2 => ∃ wd' cs' acc vs, wd1.le wd' ∧ Rl X.K wd' (upd F Dd (.lst vs)) cs' H2 ∧ RpL X.K wd' acc vs ∧
        compL pt grd (G.wipe τ (own.map (·.2))) (fun σ1 c2 K => wpE cc σ1 c2 K (fun _ _ => False)) (fun σ1 c2 K => wpE ce σ1 c2 K (fun _ _ => False))
          (fun ys c3 => if m = true then ∀ n, c3 n = none → P (.ref n) (put c3 n (.lst ys)) else P (.lst ys) c3) (items.drop (i + 1)) acc cs', fun H2 ⟨wd2, c2, acc2, vs2, l2, R2, ra2, h2⟩ => ⟨items.length - (i + 1), by omega, wd2, c2, acc2, vs2, l2, R2, ra2, rfl, hi, h2⟩, fun xv H2 y => ?_⟩
      obtain ⟨wd2, l2, R2, rv⟩ := gy xv H2 y
      have rsw : RS X.K wd2 (G.wipe τ (own.map (·.2))) (L2.wipe σ (own.map (·.2))) := ((rs.mono (l1.trans (l'.trans l2))).wipe _)
      intro s0 H0 C cl fp g p1 r1
      refine r1 wd2 _ _ cs' _ H2 items[i] xv τ1 _ R2 rsw rv eb fun σ3 rs3 w3 => ?_
      refine ⟨by rw [w3, wipe_idem], ?_⟩
      intro s0 H0 C cl fp t p2 r2
      have xz : ∀ {wd F σ}, XOk X W0 wd F σ (fun _ _ => False) := fun {wd F σ} _ _ _ _ _ _ _ _ _ z => z
      refine r2 wd2 _ τ1 cs' σ3 H2 _ (fun _ _ => False) _ R2 rs3 h' (fun wd3 d3 c3 H3 l3 R3 h3 => ?_) xz
      rcases h3 with ⟨e3, h3⟩ | ⟨e3, h3⟩
      · refine ⟨true, e3, ?_⟩
        rw [if_pos rfl]
        intro s0 H0 C cl fp t p4 r4
        refine r4 wd3 _ τ1 c3 σ3 H3 _ (fun _ _ => False) _ R3 (rs3.mono l3) h3 (fun wd4 d4 c4 v4 H4 l4 R4 rv4 h4 => ?_) xz
        have hf : H4 Dd = some (.lst vs) := R4.f Dd _ upd_same
        have ra4 := RpL.mono (l2.trans (l3.trans l4)) _ _ ra
        refine ⟨vs, hf, by rw [ra.length, sizeL]; exact h4.1, wd4, c4, acc ++ [d4], vs ++ [v4], l'.trans (l2.trans (l3.trans l4)), ?_, ra4.append ⟨v4, [], rfl, rv4, rfl⟩, h4.2⟩
        exact R4.fPut (vs ++ [v4])
      · refine ⟨false, e3, ?_⟩
        rw [if_neg Bool.false_ne_true]
        exact ⟨wd3, c3, acc, vs, l'.trans (l2.trans l3), R3, RpL.mono (l2.trans l3) _ _ ra, h3⟩
  · have ei : i = items.length := by omega
    subst ei
    rw [List.drop_length] at h'
    refine .inl ⟨it.stop wd' _ cs' H' l' R' h'.1, ?_⟩
    have h2 := h'.2
    cases m with
    | true =>
      rw [if_pos rfl] at h2
      obtain ⟨n, wd2, hn, l2, R2, r2⟩ := R'.fCell fn ra
      exact q wd2 _ _ _ _ (l1.trans (l'.trans l2)) R2 r2 (h2 n hn)
    | false =>
      rw [if_neg Bool.false_ne_true] at h2
      obtain ⟨wd2, l2, R2, r2⟩ := R'.fTree fn ra
      exact q wd2 _ _ _ _ (l1.trans (l'.trans l2)) R2 r2 h2
theorem j_comp (m : Bool) {elt tg iter : Expr} {ifs : List Expr} {scope : Scope} {own : List (Str × Nat)} {isp : ISpec} {as : Es} {pt : Pat} (hc : X.calm = true) (hN : X.N.Nodup) (hi : JI X W tg iter isp as) (ok : BlkOk X.N X.env.scope scope own)
    (hg : ∀ (s : Shared) (H : Hp) (C : Addr) (cl : List (Str × Addr)) (fp : List Addr), JG (X.blk s H scope (compEnvC scope cl C X.env) fp) tg pt (own.map (·.2)))
    (ht : ∀ (s : Shared) (H : Hp) (C : Addr) (cl : List (Str × Addr)) (fp : List Addr), JTs (X.blk s H scope (compEnvC scope cl C X.env) fp) W0 ifs cc)
    (he : ∀ (s : Shared) (H : Hp) (C : Addr) (cl : List (Str × Addr)) (fp : List Addr), JE (X.blk s H scope (compEnvC scope cl C X.env) fp) W0 elt ce) (hs : ∀ x, foldedSetIterable iter X.env x = pure x := by intro _; rfl) :
    JE X W (.ListComp elt [⟨tg, iter, ifs, 0⟩] scope pos) (.comp m (own.map (·.2)) pt isp as cc ce) := by
  obtain ⟨te, p1, r1, _⟩ := comp_core (pos := pos) m hc hN hi ok hg ht he hs
  exact ⟨te, p1, r1⟩
theorem js_setc (i : Nat) (m : Bool) {y : Str} {py spos : Pos} {elt tg iter : Expr} {ifs : List Expr} {scope : Scope} {own : List (Str × Nat)} {isp : ISpec} {as : Es} {pt : Pat} (hc : X.calm = true) (hN : X.N.Nodup) (hy : X.N[i]? = some y) (hyl : X.env.scope.names.lookup y = some .local)
    (hsw : swapsWith (.ListComp elt [⟨tg, iter, ifs, 0⟩] scope pos) (some (.Name y py)) spos.line X.env = pure true) (hi : JI X W tg iter isp as) (ok : BlkOk X.N X.env.scope scope own)
    (hg : ∀ (s : Shared) (H : Hp) (C : Addr) (cl : List (Str × Addr)) (fp : List Addr), JG (X.blk s H scope (compEnvC scope cl C X.env) fp) tg pt (own.map (·.2)))
    (ht : ∀ (s : Shared) (H : Hp) (C : Addr) (cl : List (Str × Addr)) (fp : List Addr), JTs (X.blk s H scope (compEnvC scope cl C X.env) fp) W0 ifs cc)
    (he : ∀ (s : Shared) (H : Hp) (C : Addr) (cl : List (Str × Addr)) (fp : List Addr), JE (X.blk s H scope (compEnvC scope cl C X.env) fp) W0 elt ce) (hs : ∀ x, foldedSetIterable iter X.env x = pure x := by intro _; rfl) :
    JS X W (.Assign [.Name y py] (.ListComp elt [⟨tg, iter, ifs, 0⟩] scope pos) spos) (.asg (.nm i) (.comp m (own.map (·.2)) pt isp as cc ce)) := by
  obtain ⟨te, p1, r1, ps⟩ := comp_core (pos := pos) m hc hN hi ok hg ht he hs
  refine ⟨_, ps i y py spos hy hyl hsw, fun wd F τ cs σ H P Q R rs h q => ?_⟩
  exact r1 wd F τ cs σ H _ _ _ R rs h (fun wd1 d c1 v H1 l1 R1 rv h1 => q.nx wd1 _ c1 _ H1 l1 R1 ((rs.mono l1).set i rv) h1) (q.xok rs)
end
end G

/-! GFn: calls of defs; a def keeps its core promise. -/
namespace G
open PySem PySem.Spec L2
open Evl (Ex)
def lift (K : PySem.W.Frag) (mg : Str → Option Value) (sp : Spec) : Sp := fun vs H Q E => ∃ wd F cs ds P PX, Rl K wd F cs H ∧ RpL K wd ds vs ∧ sp ds cs P PX ∧ QOk K wd F P Q ∧
  ∀ wd' x cs' cls dd H', wd.le wd' → Rl K wd' F cs' H' → RpX K mg wd' x cls dd → PX x cs' → E cls dd H'
/-- a def by its name: level, number of parameters, promise -/
structure Fn (P : Program) (w : World) (K : PySem.W.Frag) (mg : Str → Option Value) (base : Heap) (x : Str) (k n : Nat) (sp : Spec) : Prop where
  ex : ∃ f fd ps, ps.length = n ∧ mg x = some (.ref f) ∧ FnOk P w K mg base (L2N.CX P w) k f fd ps (lift K mg sp) ∧ PySem.W.keepIn K (.ref f) = true ∧ Binds K fd ps []
theorem Fn.mono {P : Program} {w : World} {K : PySem.W.Frag} {mg : Str → Option Value} {base : Heap} {x : Str} {k j n : Nat} {sp : Spec} (F : Fn P w K mg base x k n sp) (h : k ≤ j) : Fn P w K mg base x j n sp := by
  obtain ⟨f, fd, ps, e, hm, ok, kp, b⟩ := F.ex
  exact ⟨f, fd, ps, e, hm, ok.mono h, kp, b⟩
theorem Fn.imp {P : Program} {w : World} {K : PySem.W.Frag} {mg : Str → Option Value} {base : Heap} {x : Str} {k n : Nat} {sp sp' : Spec} (F : Fn P w K mg base x k n sp) (h : ∀ ds cs Q X, sp' ds cs Q X → sp ds cs Q X) : Fn P w K mg base x k n sp' := by
  obtain ⟨f, fd, ps, e, hm, ok, kp, b⟩ := F.ex
  exact ⟨f, fd, ps, e, hm, ok.imp fun vs H Q E ⟨wd, F, cs, ds, P, PX, R, r, s, q⟩ => ⟨wd, F, cs, ds, P, PX, R, r, h _ _ _ _ s, q⟩, kp, b⟩
section
variable {X : Cx} {W : WX} {pos p : Pos} {e : Expr} {es : List Expr} {ces : Es} {sp : Spec} {x : Str} {k n : Nat}
theorem j_call (F : Fn X.prog X.w X.K X.mg X.base x k n sp) (hr : Room k X.A) (tk : L2N.Takes X W) (hg : Gl X x) (ha : JA X W (e :: es) ces) (hdb : (x == ("__debug__" : Str)) = false := by decide)
    (he : starEach (e :: es) X.env = (false, eval e X.env) :: starEach es X.env := by rfl) (hpl : (backTo pos (starEach es X.env)).any (·.1) = false := by rfl) : JE X W (.Call (.Name x p) (e :: es) [] pos) (.app sp ces) := by
  obtain ⟨f, fd, ps, en, hm, ok, kp, b⟩ := F.ex
  obtain ⟨ta, p1, r1⟩ := ha
  refine ⟨_, pe_callSD ok hr hg hm kp b .nil (fun σ => L2N.passAt tk σ) p1 hdb he hpl, fun wd F τ cs σ H P PX Q R rs h q x => ?_⟩
  refine r1 wd F τ cs σ H _ PX _ R rs h (fun wd1 ds c1 vs H1 l1 R1 rv h1 => ?_) x
  rw [List.append_nil]
  exact ⟨wd1, F, c1, ds, P, PX, R1, rv, h1, q.mono l1, fun wd' y cs' cls dd H' l R' rx z => x wd' y cs' cls dd H' (l1.trans l) R' rx z⟩
end
theorem rs_start {K : PySem.W.Frag} {wd : Wd} {N : List Str} {ds : List D} {vs : List V} (r : RpL K wd ds vs) : RS K wd (G.start N.length ds) (L2.start N vs) := by
  have hl := r.length
  refine ⟨by simp [G.start, L2.start, hl], fun i d e => ?_⟩
  rw [getV_eq] at e
  unfold G.start at e
  unfold L2.start
  by_cases hi : i < ds.length
  · rw [List.getElem?_append_left (by simpa using hi), List.getElem?_map] at e
    cases ed : ds[i]? with
    | none =>
      rw [ed] at e
      cases e
    | some d' =>
      rw [ed] at e
      have : d' = d := Option.some.inj e
      subst this
      obtain ⟨v, h1, h2⟩ := r.get ed
      exact ⟨v, by rw [List.getElem?_append_left (by rw [List.length_map]; omega), List.getElem?_map, h1]; rfl, h2⟩
  · rw [List.getElem?_append_right (by simpa using Nat.le_of_not_lt hi), List.getElem?_replicate] at e
    split at e <;> cases e
section
variable {P : Program} {w : World} {K : PySem.W.Frag} {mg : Str → Option Value} {base : Heap}
/-- what the terms of a body want of its context -/
structure Ct (X : Cx) (W : WX) (k : Nat) : Prop where
  hc : X.calm = true
  hN : X.N.Nodup
  hp : PassesOwn (model X.prog X.w) X.A X.env X.xe
  tk : L2N.Takes X W
  hr : Room k X.A
theorem Ct.hu {X : Cx} {W : WX} {k : Nat} (c : Ct X W k) : X.A.units + 64 < cLine := by have := c.hr.un; omega
abbrev wxOf (E : XK) : WX := fun cls d _ H => E cls d H
theorem fnOk_of {x qual : Str} {params : Arguments} {body : List Stmt} {scope : Scope} {dvs : List V} {kws : List (Str × V)} {f : Addr} {fd : FuncData} {N ps : List Str} {k : Nat} {sp : Spec} {core : S} (FD : FunD K x qual params body scope dvs kws f fd) (S : FnScope N ps scope)
    (len : ∀ ds cs Q PX, sp ds cs Q PX → ds.length = ps.length)
    (hb : ∀ (cdv : Value) (A : Around) (outer : List Env) (s : Shared) (H : Hp) (E : XK), Ct (cxOf (L2N.CX P w) P w K mg base N qual scope f cdv A outer s H E) (wxOf E) k → JSs (cxOf (L2N.CX P w) P w K mg base N qual scope f cdv A outer s H E) (wxOf E) body core)
    (ok : okFn N.length core sp) : FnOk P w K mg base (L2N.CX P w) (k + 1) f fd ps (lift K mg sp) := by
  refine FD.ok S (fun vs H Q E h => ?_) fun cdv A outer s H vs Q E hr h => ?_
  · obtain ⟨wd, F, cs, ds, PD, PX, R, r, s, q⟩ := h
    rw [r.length]
    exact len _ _ _ _ s
  · obtain ⟨wd, F, cs, ds, PD, PX, R, r, hs, q, x⟩ := h
    obtain ⟨t, p1, r1⟩ := hb cdv A outer s H E ⟨rfl, S.nd, passes_of rfl, L2N.takes_of rfl rfl rfl rfl, hr⟩
    refine ⟨t, p1, ?_⟩
    refine r1 wd F _ cs _ H _ _ R (rs_start r) (ok ds cs PD PX hs) ⟨fun wd' τ cs' σ H' l R' rs' h' => q wd' .non cs' .non H' l R' rfl h', fun _ _ _ _ _ _ _ _ z => z.elim, fun _ _ _ _ _ _ _ _ z => z.elim, q, fun wd' y τ cs' σ cls dd H' l R' rs' rx z => x wd' y cs' cls dd H' l R' rx z⟩
end
end G

/-! GMeth: methods of lists, places stored. -/
namespace G
open PySem PySem.Spec L2
open Evl (Ex)
def RefM (K : PySem.W.Frag) (r : V → List V → Hp → VK → Prop) (sp : Spec) : Prop := ∀ wd F cs H d ds v vs (P : KD) (PX : KX) (Q : VK), Rl K wd F cs H → Rp K wd d v → RpL K wd ds vs → sp (d :: ds) cs P PX → QOk K wd F P Q → r v vs H Q
section
variable {X : Cx} {W : WX} {pos apos : Pos} {o e : Expr} {es : List Expr} {co ce : E} {ces : Es} {sp : Spec}
theorem j_methL {r : V → List V → Hp → VK → Prop} {id : String} {name : Str} (slot : Slot "list" name id) (hty : typeOf (.builtin id) = pure (.type "method_descriptor")) (hm : MtR X id r) (hr : RefM X.K r sp) (ho : JE X W o co) (ha : JA X W (e :: es) ces)
    (hbase : attributeBase o name X.env (eval o X.env) = eval o X.env := by rfl)
    (hfew : ((backTo pos (starEach (e :: es) X.env)).all (fun x => !x.1) && (backToKw pos (keywordEach [] X.env)).all (fun x => x.1.isSome)
      && decide ((e :: es).length + ([] : List Keyword).length + (if ([] : List Keyword).isEmpty then 0 else 1) < 30)) = true := by rfl)
    (hline : (apos.endLine == pos.line) = true := by rfl) (hs : starEach (e :: es) X.env = (false, eval e X.env) :: starEach es X.env := by rfl) (hplain : (backTo pos (starEach es X.env)).any (·.1) = false := by rfl) :
    JE X W (.Call (.Attribute o name apos) (e :: es) [] pos) (.meth chkL sp co ces) := by
  obtain ⟨to, p1, r1⟩ := ho
  obtain ⟨ta, p2, r2⟩ := ha
  refine ⟨_, pe_bm PySem.F.plainAttrs_list slot hty hm p1 p2 hbase hfew hline hs hplain, fun wd F τ cs σ H P PX Q R rs h q x => ?_⟩
  refine r1 wd F τ cs σ H _ PX _ R rs h (fun wd1 d c1 v H1 l1 R1 rv h1 => ?_) x
  obtain ⟨hk, h1⟩ := h1
  cases ex : getL d c1 with
  | none =>
    unfold chkL at hk
    rw [ex] at hk
    exact hk.elim
  | some xs =>
    obtain ⟨a, ws, e2, s, r3⟩ := R1.getL rv ex
    subst e2
    refine ⟨Or.inl ⟨rfl, ws, SqL.of s⟩, ?_⟩
    · refine r2 wd1 F τ c1 σ H1 _ PX _ R1 (rs.mono l1) h1 (fun wd2 ds c2 vs H2 l2 R2 rvs h2 => ?_) (x.mono l1)
      exact hr wd2 F c2 H2 d ds _ vs P PX Q R2 (rv.mono l2) rvs h2 (q.mono (l1.trans l2))
/-- a cell's list, to be written -/
theorem Rl.cellAt {K : PySem.W.Frag} {wd : Wd} {F H : Hp} {cs : Cs} (R : Rl K wd F cs H) {n : Nat} {v : V} {xs : List D} (r : Rp K wd (.ref n) v) (h : cs n = some (.lst xs)) :
    ∃ a vs, v = .ref a ∧ H a = some (.lst vs) ∧ RpL K wd xs vs ∧ ∀ ys ws, RpL K wd ys ws → Rl K wd F (put cs n (.lst ys)) (upd H a (.lst ws)) := by
  obtain ⟨a, ea, ev⟩ := id r
  obtain ⟨a', u, f1, f2, f3, f4, ws, f5, f6⟩ := R.cell n _ h
  have : a' = a := Option.some.inj (f1.symm.trans ea)
  subst this f5
  exact ⟨a', ws, ev, f4, f6, fun ys zs q => R.write ⟨_, h⟩ f1 ⟨zs, rfl, q⟩⟩
theorem sAppend_inv {ds : List D} {cs : Cs} {Q : KD} {PX : KX} {d : D} (h : sAppend (d :: ds) cs Q PX) : ∃ n y xs, d = .ref n ∧ ds = [y] ∧ cs n = some (.lst xs) ∧ xs.length < lim ∧ Q .non (put cs n (.lst (xs ++ [y]))) := by
  unfold sAppend at h
  split at h
  · rename_i n y e
    cases e
    split at h
    · rename_i xs ec
      exact ⟨n, y, xs, rfl, rfl, ec, h.1, h.2⟩
    · exact h.elim
  · exact h.elim
theorem refm_append : RefM X.K rAppend sAppend := by
  intro wd F cs H d ds v vs P PX Q R rv rvs h q
  obtain ⟨n, y, xs, e1, e2, ec, hl, hP⟩ := sAppend_inv h
  subst e1 e2
  obtain ⟨a, ws, ea, hH, rw', put'⟩ := R.cellAt rv ec
  obtain ⟨w, ew, rw2⟩ := rvs.one
  exact ⟨a, ws, w, ea, ew, hH, by rw [rw'.length, sizeL]; exact hl, q wd .non _ _ _ (Wd.le.refl _) (put' _ _ (rw'.append (es := [y]) (ws := [w]) ⟨w, [], rfl, rw2, rfl⟩)) rfl hP⟩
theorem j_append (ho : JE X W o co) (ha : JE X W e ce) (hs : starEach [e] X.env = (false, eval e X.env) :: starEach [] X.env := by rfl) (hbase : attributeBase o "append" X.env (eval o X.env) = eval o X.env := by rfl)
    (hfew : ((backTo pos (starEach [e] X.env)).all (fun x => !x.1) && (backToKw pos (keywordEach [] X.env)).all (fun x => x.1.isSome)
      && decide ([e].length + ([] : List Keyword).length + (if ([] : List Keyword).isEmpty then 0 else 1) < 30)) = true := by rfl)
    (hline : (apos.endLine == pos.line) = true := by rfl) : JE X W (.Call (.Attribute o "append" apos) [e] [] pos) (.meth chkL sAppend co (.cons ce .nil)) :=
  j_methL PySem.F.slot_list_append PySem.F.type_list_append mt_append refm_append ho (ja_cons ha ja_nil hs) hbase hfew hline hs rfl
/-! ### a[i] = e -/
theorem sSetIx_inv {v d i : D} {cs : Cs} {Q : KD} {PX : KX} (h : sSetIx [v, d, i] cs Q PX) : ∃ n k xs j, d = .ref n ∧ i = .int k ∧ cs n = some (.lst xs) ∧ ixn xs.length k = some j ∧ Q .non (put cs n (.lst (xs.set j v))) := by
  unfold sSetIx at h
  split at h
  · rename_i v n k e
    cases e
    split at h
    · rename_i xs ec
      split at h
      · rename_i j ej
        exact ⟨n, k, xs, j, rfl, rfl, ec, ej, h⟩
      · exact h.elim
    · exact h.elim
  · exact h.elim
theorem js_setIx {i : Expr} {ci : E} (he : JE X W e ce) (ho : JE X W o co) (hi : JE X W i ci) (hs : swapsWithSole [.Subscript o i apos] e pos.line X.env = pure false := by rfl) (hw : swappedStores [.Subscript o i apos] e X.env = pure none := by rfl)
    (h1 : (assignEach [.Subscript o i apos] X.env).map (·.2) = [assign (.Subscript o i apos) X.env] := by rfl)
    (ha : ∀ v, assign (.Subscript o i apos) X.env v = (do
      let ov ← holding [v] (eval o X.env)
      let iv ← holding [v, ov] (eval i X.env)
      standAt apos
      holding [v, ov, iv] (setItem ov iv v)
      release [v, ov, iv] []) := by intro _; rfl) : JS X W (.Assign [.Subscript o i apos] e pos) (.exp (.app sSetIx (.cons ce (.cons co (.cons ci .nil))))) := by
  obtain ⟨te, p1, r1⟩ := he
  obtain ⟨to, p2, r2⟩ := ho
  obtain ⟨ti, p3, r3⟩ := hi
  refine ⟨_, ps_asg p1 (pg_sub p2 p3 set_list ha) hs hw h1, fun wd F τ cs σ H P Q R rs h q => ?_⟩
  refine r1 wd F τ cs σ H _ _ _ R rs h (fun wd1 d1 c1 v1 H1 l1 R1 rv1 h1 => ?_) (q.xok rs)
  refine r2 wd1 F τ c1 σ H1 _ _ _ R1 (rs.mono l1) h1 (fun wd2 d2 c2 v2 H2 l2 R2 rv2 h2 => ?_) ((q.xok rs).mono l1)
  refine r3 wd2 F τ c2 σ H2 _ _ _ R2 (rs.mono (l1.trans l2)) h2 (fun wd3 d3 c3 v3 H3 l3 R3 rv3 h3 => ?_) ((q.xok rs).mono (l1.trans l2))
  obtain ⟨n, k, xs, j, e1, e2, ec, ej, hP⟩ := sSetIx_inv (v := d1) (d := d2) (i := d3) (cs := c3) (Q := fun x cs' => P.nx τ cs') (PX := fun x cs' => P.ex x τ cs') h3
  subst e1 e2
  obtain ⟨a, ws, ea, hH, rw', put'⟩ := R3.cellAt (rv2.mono l3) ec
  have l13 := l1.trans (l2.trans l3)
  refine ⟨a, ws, k, j, ea, rv3, hH, by rw [rw'.length]; exact ej, ?_⟩
  exact q.nx wd3 τ _ σ _ l13 (put' _ _ (rw'.set (rv1.mono (l2.trans l3)))) (rs.mono l13) hP
end
end G
namespace G
open PySem PySem.Spec L2
def sIAdd : Spec := sInt CTrue fun i j => .int (i + j)
section
variable {X : Cx} {W : WX} {pos p' : Pos} {e : Expr} {ce : E}
theorem ref_aug {i : Nat} {te : TE} {ti : TIp} {C : Int → Int → Prop} {f : Int → Int → Int} (r : RefE X W te ce) (h : ∀ i j H (Q : VK), C i j → Q (.int (f i j)) H → ti (.int i) (.int j) H Q) :
    RefS X W (tAug i te ti) (.asg (.nm i) (.app (sInt C fun i j => .int (f i j)) (.cons (.v i) (.cons ce .nil)))) := by
  intro wd F τ cs σ H P Q R rs hw q
  have hw : (match getV τ i with
    | some d => wpE ce τ cs (fun d2 c1 => sInt C (fun i j => .int (f i j)) [d, d2] c1 (fun d c2 => match bindP (.nm i) [d] τ with
      | some σ' => P.nx σ' c2
      | none => False) (fun x c2 => P.ex x τ c2)) (fun x c2 => P.ex x τ c2)
    | none => False) := hw
  cases e : getV τ i with
  | none => rw [e] at hw; exact hw.elim
  | some d =>
    rw [e] at hw
    obtain ⟨v, hv, rv⟩ := rs.at_ i d e
    refine ⟨v, hv, ?_⟩
    refine r wd F τ cs σ H _ _ _ R rs hw (fun wd1 d2 c1 v2 H1 l1 R1 rv2 h1 => ?_) (q.xok rs)
    obtain ⟨a, b, e1, e2, hc, hp⟩ := sInt_inv h1
    subst e1 e2
    rw [show v = _ from rv, show v2 = _ from rv2]
    exact h a b H1 _ hc (q.nx wd1 _ c1 _ H1 l1 R1 ((rs.mono l1).set (d := .int (f a b)) (v := .int (f a b)) i rfl) hp)
theorem js_augAdd (i : Nat) {x : Str} (hN : X.N.Nodup) (hi : X.N[i]? = some x) (hx : Loc X.env.scope x) (he : JE X W e ce) (hf : X.fn x = true ∨ X.env.scope.names.lookup x = some .local := by first | exact .inl rfl | exact .inr rfl | assumption) :
    JS X W (.AugAssign (.Name x p') .Add e pos) (.asg (.nm i) (.app sIAdd (.cons (.v i) (.cons ce .nil)))) := by
  obtain ⟨t, p1, r1⟩ := he
  exact ⟨_, ps_aug hN hi hx p1 ip_add hf, ref_aug (C := CTrue) (f := fun i j => i + j) r1 fun i j H Q _ q => ⟨i, j, rfl, rfl, q⟩⟩
end
end G

/-! GKw: calls with keywords. -/
namespace G
open PySem PySem.Spec L2
open Evl (Ex)
theorem permL_vals : ∀ (ix : List Nat) {vs : List V} {us : List Value}, Vals vs us → Vals (permL ix vs) (permL ix us)
  | [], _, _, _ => .nil
  | i :: ix, vs, us, r => by
    have ih := permL_vals ix r
    unfold permL at ih ⊢
    rw [List.filterMap_cons, List.filterMap_cons]
    cases e : vs[i]? with
    | none =>
      rw [r.none_of e]
      exact ih
    | some v =>
      obtain ⟨u, h1, h2⟩ := r.get e
      rw [h1]
      exact .cons h2 ih
theorem RpL.none_of {K : PySem.W.Frag} {wd : Wd} {ds : List D} {vs : List V} {i : Nat} (r : RpL K wd ds vs) (e : ds[i]? = none) : vs[i]? = none := by
  have h := r.length
  have h2 : ds.length ≤ i := List.getElem?_eq_none_iff.mp e
  exact List.getElem?_eq_none_iff.mpr (by omega)
theorem permL_rp {K : PySem.W.Frag} {wd : Wd} : ∀ (ix : List Nat) {ds : List D} {vs : List V}, RpL K wd ds vs → RpL K wd (permL ix ds) (permL ix vs)
  | [], _, _, _ => rfl
  | i :: ix, ds, vs, r => by
    have ih := permL_rp ix r
    unfold permL at ih ⊢
    rw [List.filterMap_cons, List.filterMap_cons]
    cases e : ds[i]? with
    | none =>
      rw [r.none_of e]
      exact ih
    | some v =>
      obtain ⟨u, h1, h2⟩ := r.get e
      rw [h1]
      exact ⟨u, _, rfl, h2, ih⟩
/-- a def called with n values and the keywords ks -/
structure FnK (P : Program) (w : World) (K : PySem.W.Frag) (mg : Str → Option Value) (base : Heap) (x : Str) (k n : Nat) (ks : List Str) (ix : List Nat) (sp : Spec) : Prop where
  ex : ∃ f fd ps, mg x = some (.ref f) ∧ FnOk P w K mg base (L2N.CX P w) k f fd ps (lift K mg sp) ∧ PySem.W.keepIn K (.ref f) = true ∧
    ∀ (s : Shared) (us ws : List Value), us.length = n → ws.length = ks.length → BindsTo s fd ⟨us, ks.zip ws⟩ (ps.zip (permL ix (us ++ ws)))
section
variable {X : Cx} {W : WX} {pos p : Pos} {e : Expr} {es : List Expr} {kws : List Keyword} {ces cks call : Es} {sp : Spec} {x : Str} {k n : Nat} {ks : List Str} {ix : List Nat}
def JK (X : Cx) (W : WX) (kws : List Keyword) (c : Es) : Prop := ∃ ta, PK X kws ta ∧ RefA X W ta c
theorem jk_nil : JK X W [] .nil := ⟨_, pk_nil, fun wd F τ cs σ H P PX Q R r h q x => q wd [] cs [] H (Wd.le.refl _) R rfl h⟩
theorem jk_cons {ce : E} {nm : Option Str} {kpos : Pos} (h1 : JE X W e ce) (h2 : JK X W kws cks) : JK X W (⟨nm, e, kpos⟩ :: kws) (.cons ce cks) := by
  obtain ⟨te, p1, r1⟩ := h1
  obtain ⟨ta, p2, r2⟩ := h2
  refine ⟨_, pk_cons p1 p2, fun wd F τ cs σ H P PX Q R r h q x => ?_⟩
  refine r1 wd F τ cs σ H _ PX _ R r h (fun wd1 d c1 v H1 l1 R1 rv h1 => ?_) x
  refine r2 wd1 F τ c1 σ H1 _ PX _ R1 (r.mono l1) h1 (fun wd2 ds c2 vs H2 l2 R2 rvs h2 => ?_) (x.mono l1)
  exact q wd2 (d :: ds) c2 (v :: vs) H2 (l1.trans l2) R2 ⟨v, vs, rfl, rv.mono l2, rvs⟩ h2
/-- the callee runs -/
theorem run_kw {f : Addr} {fd : FuncData} {ps : List Str} {E : XK} {pins : List (Addr × Obj)} {σ : St} {H : Hp} {s : Shared} {Q : VK} {us ws : List Value} {vs zs : List V} (ok : FnOk X.prog X.w X.K X.mg X.base (L2N.CX X.prog X.w) k f fd ps (lift X.K X.mg sp)) (hr : Room k X.A) (hb : BindsTo s fd ⟨us, ks.zip ws⟩ (ps.zip (permL ix (us ++ ws))))
    (hx : PassesAt (L2N.CX X.prog X.w) X σ E) (I : Inv X pins σ H s) (r : Vals vs us) (rz : Vals zs ws) (h : lift X.K X.mg sp (permL ix (vs ++ zs)) H Q E) : wpAny (model X.prog X.w) X.A (PySem.call (.ref f) us (ks.zip ws)) (EP X pins σ Q) X.xe s := by
  refine wpAny_call (codeAny_mono (ok.run X.A X.stack s H ⟨us, ks.zip ws⟩ _ _ Q E hr I.env0 hb (permL_vals ix (r.append rz)) h) fun res s' hq => ?_)
  cases res with
  | error err => exact hx pins H s err s' I hq
  | ok fl =>
    cases fl with
    | ret u => exact I.after hq
    | next => exact hq.elim
    | brk => exact hq.elim
    | cont => exact hq.elim
theorem j_callk0 (F : FnK X.prog X.w X.K X.mg X.base x k 0 ks ix sp) (hr : Room k X.A) (tk : L2N.Takes X W) (hg : Gl X x) (hk : JK X W kws cks) (hall : (backToKw pos (keywordEach kws X.env)).all (·.1.isSome) = true := by rfl) (hks : (backToKw pos (keywordEach kws X.env)).filterMap (·.1) = ks := by rfl)
    (hdb : (x == ("__debug__" : Str)) = false := by decide) (hpl : ((backTo pos (starEach [] X.env)).any (·.1) || (backToKw pos (keywordEach kws X.env)).any (·.1.isNone)) = false := by rfl) (hlen : kws.length = ks.length := by rfl) :
    JE X W (.Call (.Name x p) [] kws pos) (.appk 0 ks.length ix sp .nil cks) := by
  obtain ⟨f, fd, ps, hm, ok, kp, hb⟩ := F.ex
  obtain ⟨ta, p1, r1⟩ := hk
  refine ⟨fun σ H Q => ta σ H fun zs H2 => zs.length = ks.length ∧ lift X.K X.mg sp (permL ix zs) H2 Q (WE W σ), ⟨fun pins s σ H Q I h => ?_⟩, fun wd F τ cs σ H P PX Q R rs h q x => ?_⟩
  · refine wpAny_Call_Name_kw (ld_glob I hg hm ?_ hdb)
    refine PySem.W.callWith_KW0 (h₀ := X.base) I.ok.mod.kin kp hall (thn (p1.run pos pins s σ H _ I h) fun ws s2 ⟨zs, H2, I2, rz, l2, q2⟩ => ⟨I2.kIn, ?_⟩) hpl
    rw [hks]
    exact run_kw (us := []) (vs := []) ok hr (hb s2 [] ws rfl (rz.length.symm.trans l2)) (L2N.passAt tk σ) I2 .nil rz q2
  · refine r1 wd F τ cs σ H _ PX _ R rs h (fun wd1 ds c1 vs H1 l1 R1 rv h1 => ⟨rv.length.trans h1.2.1, wd1, F, c1, permL ix ds, P, PX, R1, permL_rp ix rv, h1.2.2, q.mono l1, fun wd' y cs' cls dd H' l R' rx z => x wd' y cs' cls dd H' (l1.trans l) R' rx z⟩) x
end
end G

/-! GLib: the core's readings, simplified; the helpers of the laws. -/
namespace G
open PySem (Str)
def iD (ns : List Int) : List D := ns.map D.int
@[simp] theorem put_same {cs : Cs} {n : Nat} {o : Ob} : put cs n o n = some o := if_pos rfl
@[simp] theorem put_put {cs : Cs} {n : Nat} {o o' : Ob} : put (put cs n o) n o' = put cs n o' := by
  funext m
  unfold put
  split <;> rfl
theorem put_ne {cs : Cs} {n m : Nat} {o : Ob} (h : m ≠ n) : put cs n o m = cs m := if_neg h
/-! ### how operations read -/
@[simp] theorem sLt_i {i j : Int} {cs : Cs} {Q : KD} {X : KX} : sLt [.int i, .int j] cs Q X = Q (.bl (decide (i < j))) cs := by simp [sLt, sInt, CTrue]
@[simp] theorem sLe_i {i j : Int} {cs : Cs} {Q : KD} {X : KX} : sLe [.int i, .int j] cs Q X = Q (.bl (decide (i ≤ j))) cs := by simp [sLe, sInt, CTrue]
@[simp] theorem sGt_i {i j : Int} {cs : Cs} {Q : KD} {X : KX} : sGt [.int i, .int j] cs Q X = Q (.bl (decide (j < i))) cs := by simp [sGt, sInt, CTrue]
@[simp] theorem sGe_i {i j : Int} {cs : Cs} {Q : KD} {X : KX} : sGe [.int i, .int j] cs Q X = Q (.bl (decide (j ≤ i))) cs := by simp [sGe, sInt, CTrue]
@[simp] theorem sAdd_i {i j : Int} {cs : Cs} {Q : KD} {X : KX} : sAdd [.int i, .int j] cs Q X = Q (.int (i + j)) cs := rfl
@[simp] theorem sSub_i {i j : Int} {cs : Cs} {Q : KD} {X : KX} : sSub [.int i, .int j] cs Q X = Q (.int (i - j)) cs := by simp [sSub, sInt, CTrue]
@[simp] theorem sMul_i {i j : Int} {cs : Cs} {Q : KD} {X : KX} : sMul [.int i, .int j] cs Q X = (mulOk i j ∧ Q (.int (i * j)) cs) := rfl
@[simp] theorem sDiv_i {i j : Int} {cs : Cs} {Q : KD} {X : KX} : sDiv [.int i, .int j] cs Q X = (divOk i j ∧ Q (.int (i / j)) cs) := rfl
@[simp] theorem sMod_i {i j : Int} {cs : Cs} {Q : KD} {X : KX} : sMod [.int i, .int j] cs Q X = (0 < j ∧ Q (.int (i % j)) cs) := rfl
@[simp] theorem sPow_i {i j : Int} {cs : Cs} {Q : KD} {X : KX} : sPow [.int i, .int j] cs Q X = (powOk i j ∧ Q (.int (i ^ j.toNat)) cs) := rfl
@[simp] theorem sMax2_i {i j : Int} {cs : Cs} {Q : KD} {X : KX} : sMax2 [.int i, .int j] cs Q X = Q (.int (if j > i then j else i)) cs := by simp [sMax2, sInt, CTrue]
@[simp] theorem sMin2_i {i j : Int} {cs : Cs} {Q : KD} {X : KX} : sMin2 [.int i, .int j] cs Q X = Q (.int (if j < i then j else i)) cs := by simp [sMin2, sInt, CTrue]
@[simp] theorem getQ_lst {xs : List D} {cs : Cs} : getQ (.lst xs) cs = some xs := rfl
@[simp] theorem getQ_tup {xs : List D} {cs : Cs} : getQ (.tup xs) cs = some xs := rfl
@[simp] theorem getL_lst {xs : List D} {cs : Cs} : getL (.lst xs) cs = some xs := rfl
@[simp] theorem getQ_ref {n : Nat} {cs : Cs} : getQ (.ref n) cs = match cs n with
  | some (.lst xs) => some xs
  | _ => none := rfl
@[simp] theorem getL_ref {n : Nat} {cs : Cs} : getL (.ref n) cs = match cs n with
  | some (.lst xs) => some xs
  | _ => none := rfl
@[simp] theorem sIx_e {x : D} {i : Int} {cs : Cs} {Q : KD} {X : KX} : sIx [x, .int i] cs Q X = match getQ x cs with
    | some xs => match ix xs i with
      | some d => Q d cs
      | none => False
    | none => False := by cases x <;> rfl
@[simp] theorem sSetIx_e {v : D} {n : Nat} {i : Int} {cs : Cs} {Q : KD} {X : KX} : sSetIx [v, .ref n, .int i] cs Q X = match cs n with
    | some (.lst xs) => match ixn xs.length i with
      | some j => Q .non (put cs n (.lst (xs.set j v)))
      | none => False
    | _ => False := rfl
@[simp] theorem sLen_e {x : D} {cs : Cs} {Q : KD} {X : KX} (h : ∀ s, x ≠ .str s) : sLen [x] cs Q X = match getQ x cs with
    | some xs => Q (.int xs.length) cs
    | none => False := by
  cases x with
  | str s => exact absurd rfl (h s)
  | _ => rfl
theorem ix_nat {xs : List D} {i : Nat} {d : D} (h : xs[i]? = some d) : ix xs (i : Int) = some d := by
  have hl : i < xs.length := (List.getElem?_eq_some_iff.mp h).1
  unfold ix ixn
  rw [if_pos (by omega), if_pos (by omega)]
  exact h
@[simp] theorem ix_0 {x : D} {xs : List D} : ix (x :: xs) 0 = some x := ix_nat (i := 0) rfl
@[simp] theorem ix_1 {x y : D} {xs : List D} : ix (x :: y :: xs) 1 = some y := ix_nat (i := 1) rfl
@[simp] theorem ix_2 {x y z : D} {xs : List D} : ix (x :: y :: z :: xs) 2 = some z := ix_nat (i := 2) rfl
@[simp] theorem ix_3 {x y z w : D} {xs : List D} : ix (x :: y :: z :: w :: xs) 3 = some w := ix_nat (i := 3) rfl
@[simp] theorem ixn_0 {n : Nat} : ixn (n + 1) 0 = some 0 := by
  unfold ixn
  rw [if_pos (by omega), if_pos (by omega)]
  rfl
@[simp] theorem ixn_1 {n : Nat} : ixn (n + 1 + 1) 1 = some 1 := by
  unfold ixn
  rw [if_pos (by omega), if_pos (by omega)]
  rfl
@[simp] theorem ixn_2 {n : Nat} : ixn (n + 1 + 1 + 1) 2 = some 2 := by
  unfold ixn
  rw [if_pos (by omega), if_pos (by omega)]
  rfl
@[simp] theorem ixn_3 {n : Nat} : ixn (n + 1 + 1 + 1 + 1) 3 = some 3 := by
  unfold ixn
  rw [if_pos (by omega), if_pos (by omega)]
  rfl
theorem sIx_l {x : D} {i : Int} {xs : List D} {d : D} {cs : Cs} {Q : KD} {X : KX} (h : getQ x cs = some xs) (hd : ix xs i = some d) : sIx [x, .int i] cs Q X = Q d cs := by
  have e : sIx [x, .int i] cs Q X = (match getQ x cs with
    | some xs => match ix xs i with
      | some d => Q d cs
      | none => False
    | none => False) := by cases x <;> rfl
  rw [e, h]
  simp only [hd]
theorem getQ_cell {n : Nat} {cs : Cs} {xs : List D} (h : cs n = some (.lst xs)) : getQ (.ref n) cs = some xs := by
  show (match cs n with
    | some (.lst xs) => some xs
    | _ => none) = _
  rw [h]
/-! ### loops -/
theorem compL_pure {p : Pat} {grd : Cs → Prop} {σ : Sl} {tst elt : Sl → Cs → KD → Prop} {Q : List D → Cs → Prop} {cs : Cs} (q : D → Bool) (f : D → D) (hg : grd cs) : ∀ (items acc : List D),
    (∀ x ∈ items, ∃ σ1, bindP p [x] σ = some σ1 ∧ (∀ K : KD, K (.bl (q x)) cs → tst σ1 cs K) ∧ (q x = true → ∀ K : KD, K (f x) cs → elt σ1 cs K)) →
    acc.length + items.length ≤ lim → Q (acc ++ (items.filter q).map f) cs → compL p grd σ tst elt Q items acc cs
  | [], acc, _, _, hQ => ⟨hg, by simpa using hQ⟩
  | x :: xs, acc, h, hl, hQ => by
    obtain ⟨σ1, hb, ht, he⟩ := h x List.mem_cons_self
    refine ⟨hg, ?_⟩
    rw [hb]
    have ih := fun acc => compL_pure (tst := tst) (elt := elt) (Q := Q) q f hg xs acc fun y hy => h y (List.mem_cons_of_mem _ hy)
    have hl2 : acc.length + (xs.length + 1) ≤ lim := by simpa using hl
    refine ht _ ?_
    cases e : q x with
    | true =>
      refine .inl ⟨rfl, he e _ ⟨by omega, ih _ (by simp; omega) ?_⟩⟩
      simpa [e] using hQ
    | false =>
      refine .inr ⟨rfl, ih _ (by omega) ?_⟩
      simpa [e] using hQ
theorem forL_inv {p : Pat} {grd : Cs → Prop} {body : Sl → Cs → Ends → Prop} {K : Ends} (I : Nat → Sl → Cs → Prop) : ∀ (items : List D) (i : Nat) {σ : Sl} {cs : Cs}, I i σ cs →
    (∀ j σ cs, i ≤ j → j ≤ i + items.length → I j σ cs → grd cs) →
    (∀ j x σ cs, items[j]? = some x → I (i + j) σ cs → ∃ σ1, bindP p [x] σ = some σ1 ∧ ∀ K', (∀ σ' cs', I (i + j + 1) σ' cs' → K'.nx σ' cs') → (∀ σ' cs', I (i + j + 1) σ' cs' → K'.ct σ' cs') → K'.bk = K.nx → K'.rt = K.rt → K'.ex = K.ex → body σ1 cs K') →
    (∀ σ cs, I (i + items.length) σ cs → K.nx σ cs) → forL p grd body K items σ cs
  | [], i, σ, cs, h0, hg, _, hd => ⟨hg i σ cs (Nat.le_refl _) (Nat.le_add_right _ _) h0, hd σ cs h0⟩
  | x :: xs, i, σ, cs, h0, hg, hs, hd => by
    refine ⟨hg i σ cs (Nat.le_refl _) (Nat.le_add_right _ _) h0, ?_⟩
    obtain ⟨σ1, hb, hbody⟩ := hs 0 x σ cs rfl h0
    rw [hb]
    have nxt : ∀ σ' cs', I (i + 1) σ' cs' → forL p grd body K xs σ' cs' := fun σ' cs' h1 =>
      forL_inv I xs (i + 1) h1 (fun j σ cs a b => hg j σ cs (by omega) (by simp at b ⊢; omega)) (fun j x σ cs hj hI => by
        have hI' : I (i + (j + 1)) σ cs := by rw [show i + (j + 1) = i + 1 + j by omega]; exact hI
        have := hs (j + 1) x σ cs (by simpa using hj) hI'
        rw [show i + (j + 1) + 1 = i + 1 + j + 1 by omega] at this
        exact this) fun σ cs h => hd σ cs (by rw [show i + (x :: xs).length = i + 1 + xs.length by simp; omega]; exact h)
    exact hbody _ nxt nxt rfl rfl rfl
/-- a while, by an invariant and a measure -/
theorem whl_inv {tst : Sl → Cs → KD → KX → Prop} {body : Sl → Cs → Ends → Prop} {K : Ends} (I : Nat → Sl → Cs → Prop)
    (h : ∀ m σ cs, I m σ cs → ∃ b : Bool, (∀ Q : KD, ∀ X : KX, Q (.bl b) cs → tst σ cs Q X) ∧ (b = false → K.nx σ cs) ∧
      (b = true → ∀ K', (∀ m' σ' cs', m' < m → I m' σ' cs' → K'.nx σ' cs') → (∀ m' σ' cs', m' < m → I m' σ' cs' → K'.ct σ' cs') → K'.bk = K.nx → K'.rt = K.rt → K'.ex = K.ex → body σ cs K')) :
    ∀ (n m : Nat) (σ : Sl) (cs : Cs), m < n → I m σ cs → whlN tst body K n σ cs
  | 0, _, _, _, hn, _ => absurd hn (Nat.not_lt_zero _)
  | n + 1, m, σ, cs, hn, hI => by
    obtain ⟨b, ht, hf, hb⟩ := h m σ cs hI
    refine ht _ _ ?_
    cases b with
    | true =>
      have nxt : ∀ m' σ' cs', m' < m → I m' σ' cs' → whlN tst body K n σ' cs' := fun m' σ' cs' hm h' => whl_inv I h n m' σ' cs' (by omega) h'
      exact .inl ⟨rfl, hb rfl _ nxt nxt rfl rfl rfl⟩
    | false => exact .inr ⟨rfl, hf rfl⟩
/-! ### a draw -/
def drwL (ns : List Int) (p c z : Int) : List D := [.lst (iD ns), .int p, .int c, .int z]
/-- a draw begins -/
def spStartU : Spec := fun ds cs Q _ => ds = [.scr] ∧ ∀ n ns p c z, cs n = none → DrwOk ns p c z → Q (.ref n) (put cs n (.lst (drwL ns p c z)))
def spStart : Spec := fun ds cs Q _ => ds = [.scr] ∧ ∀ n, cs n = none → Q (.ref n) (put cs n .drw)
/-- the draw, its cell open -/
def spTakeU : Spec := fun ds cs Q _ => ∃ n m ns p c z, ds = [.ref n, .int m] ∧ cs n = some (.lst (drwL ns p c z)) ∧ DrwOk ns p c z ∧ 0 < m ∧ m < 2 ^ 200 ∧
  ∀ p' c' z' r, DrwOk ns p' c' z' → 0 ≤ r → r < m → Q (.int r) (put cs n (.lst (drwL ns p' c' z')))
/-- .. closed -/
def spTake : Spec := fun ds cs Q _ => ∃ n m, ds = [.ref n, .int m] ∧ cs n = some .drw ∧ 0 < m ∧ m < 2 ^ 200 ∧ ∀ r, 0 ≤ r → r < m → Q (.int r) cs
/-- an item of a list -/
def spOf : Spec := fun ds cs Q _ => ∃ n x xs, ds = [.ref n, x] ∧ cs n = some .drw ∧ (∀ s, x ≠ .str s) ∧ getQ x cs = some xs ∧ xs ≠ [] ∧ xs.length ≤ lim ∧ ∀ d ∈ xs, Q d cs
theorem pur_in {b : Bool} {k : Nat} {xs : List D} (h : (b && purs k xs) = true) : purs k xs = true := by
  rw [Bool.and_eq_true] at h
  exact h.2
theorem pur_len {n : Nat} {b : Bool} (h : (decide (n ≤ lim) && b) = true) : n ≤ lim := by
  rw [Bool.and_eq_true] at h
  exact of_decide_eq_true h.1
mutual
theorem eqD_refl : ∀ (k : Nat) (x : D), pur k x = true → eqD x x = true
  | _, .non, _ => rfl
  | _, .bl b, _ => by simp [eqD]
  | _, .int i, _ => by simp [eqD]
  | _, .str s, _ => by simp [eqD]
  | 0, .lst _, h => by cases h
  | 0, .tup _, h => by cases h
  | k + 1, .lst xs, h => by
    have h : purs k xs = true := pur_in h
    simp only [eqD]
    exact eqDs_refl k xs h
  | k + 1, .tup xs, h => by
    have h : purs k xs = true := pur_in h
    simp only [eqD]
    exact eqDs_refl k xs h
  | k, .dic _ _, h => by cases k <;> cases h
  | k, .ref _, h => by cases k <;> cases h
  | k, .scr, h => by cases k <;> cases h
theorem eqDs_refl : ∀ (k : Nat) (xs : List D), purs k xs = true → eqDs xs xs = true
  | _, [], _ => rfl
  | k, x :: xs, h => by
    have h : (pur k x && purs k xs) = true := h
    rw [Bool.and_eq_true] at h
    simp only [eqDs, eqD_refl k x h.1, eqDs_refl k xs h.2, Bool.and_self]
end
theorem purs_of {k : Nat} : ∀ {xs : List D}, (∀ x ∈ xs, pur k x = true) → purs k xs = true
  | [], _ => rfl
  | x :: xs, h => by
    show (pur k x && purs k xs) = true
    rw [h x List.mem_cons_self, purs_of fun y hy => h y (List.mem_cons_of_mem _ hy)]
    rfl
theorem asBools_true : ∀ (n : Nat), asBools (List.replicate n (.bl true)) = some (List.replicate n true)
  | 0 => rfl
  | n + 1 => by
    show (asBools (List.replicate n (.bl true))).map (true :: ·) = _
    rw [asBools_true n]
    rfl
end G

/-! GScr: the script cut; slices. -/
namespace G
open PySem PySem.Spec L2
open Evl (Ex)
section
variable {X : Cx} {W : WX} {pos p1 p2 : Pos} {e : Expr} {ce : E}
theorem ints_rp {K : PySem.W.Frag} {wd : Wd} : ∀ ns : List Int, RpL K wd (ns.map D.int) (ns.map V.int)
  | [] => rfl
  | n :: ns => ⟨_, _, rfl, rfl, ints_rp ns⟩
theorem sCutScr_inv {d : D} {cs : Cs} {Q : KD} {PX : KX} (h : sCutScr [d] cs Q PX) : d = .scr ∧ ∀ ns : List Int, ns.length ≤ 63 → (∀ n ∈ ns, n.natAbs < 2 ^ (2 ^ 20)) → Q (.lst (ns.map D.int)) cs := by
  unfold sCutScr at h
  split at h
  · rename_i e
    cases e
    exact ⟨rfl, h⟩
  · exact h.elim
theorem j_cutScr {j : Nat} (he : JE X W e ce) : JE X W (.Subscript e (.Slice none (some (.Constant (.int 63) j p2)) none p1) pos) (.app sCutScr (.cons ce .nil)) := by
  obtain ⟨te, p0, r0⟩ := he
  refine ⟨_, pe_slice sl_list p0 po_none (po_some pe_int), fun wd F τ cs σ H P PX Q R rs h q x => ?_⟩
  refine r0 wd F τ cs σ H _ PX _ R rs h (fun wd1 d c1 v H1 l1 R1 rv h1 => ?_) x
  obtain ⟨ed, h1⟩ := sCutScr_inv (PX := PX) h1
  subst ed
  obtain ⟨a, ns, ev, hs, hl, hb⟩ := rv
  have hcut : cutV (ns.map V.int) none (some 63) = (ns.take (min 63 ns.length)).map V.int := by
    unfold cutV
    simp [HT.sIx, List.map_take]
  refine ⟨63, rfl, a, ns.map V.int, ev, Evl.ex_l R1.b hs, fun p hp => ?_⟩
  rw [hcut]
  obtain ⟨wd2, l2, R2, r2⟩ := R1.lst hp (ints_rp (ns.take (min 63 ns.length)))
  exact q wd2 _ c1 _ _ (l1.trans l2) R2 r2 (h1 _ (by rw [List.length_take]; omega) fun n hn => hb n (List.mem_of_mem_take hn))
end
/-- a cell's content, told otherwise -/
theorem Rl.retell {K : PySem.W.Frag} {wd : Wd} {F H : Hp} {cs cs' : Cs} (R : Rl K wd F cs H) {n : Nat} {o' : Ob} (h : ∀ a u, wd.r n = some a → H a = some u → (∃ o, cs n = some o ∧ RpO K wd o u) → RpO K wd o' u) (hn : ∃ o, cs n = some o) (e' : cs' n = some o') (ne : ∀ m, m ≠ n → cs' m = cs m) : Rl K wd F cs' H := by
  refine ⟨R.b, R.f, R.bf, R.inj, fun m o e => ?_, R.ran, R.top, R.rf, R.fe, R.tab, R.bt⟩
  by_cases hm : m = n
  · subst hm
    rw [e'] at e
    cases e
    obtain ⟨o, ho⟩ := hn
    obtain ⟨a, u, f1, f2, f3, f4, f5⟩ := R.cell m o ho
    exact ⟨a, u, f1, f2, f3, f4, h a u f1 f4 ⟨o, ho, f5⟩⟩
  · rw [ne m hm] at e
    exact R.cell m o e
theorem drw_open {K : PySem.W.Frag} {wd : Wd} {u : HO} (h : RpO K wd .drw u) : ∃ ns p c z, DrwOk ns p c z ∧ RpO K wd (.lst (drwL ns p c z)) u := by
  obtain ⟨ns, p, c, z, a, e, hb, ok⟩ := h
  exact ⟨ns, p, c, z, ok, _, e, _, _, rfl, ⟨a, _, rfl, hb, ints_rp ns⟩, _, _, rfl, rfl, _, _, rfl, rfl, _, _, rfl, rfl, rfl⟩
theorem drw_close {K : PySem.W.Frag} {wd : Wd} {u : HO} {ns : List Int} {p c z : Int} (ok : DrwOk ns p c z) (h : RpO K wd (.lst (drwL ns p c z)) u) : RpO K wd .drw u := by
  obtain ⟨xs, e, v, r, e1, ⟨a, ws, ea, hb, hr⟩, v2, r2, e2, rfl, v3, r3, e3, rfl, v4, r4, e4, rfl, e5⟩ := h
  have : r4 = [] := e5
  subst this e4 e3 e2 e1 e ea
  have hw : ws = ns.map V.int := asInts_V hr (by
    have : ∀ l : List Int, asInts (iD l) = some l := by
      intro l
      induction l with
      | nil => rfl
      | cons x l ih =>
        show (asInts (iD l)).map (x :: ·) = _
        rw [ih]
        rfl
    exact this ns)
  subst hw
  exact ⟨ns, p, c, z, a, rfl, hb, ok⟩
section
variable {P : Program} {w : World} {K : PySem.W.Frag} {mg : Str → Option Value} {base : Heap} {k : Nat} {f : Addr} {fd : FuncData} {ps : List Str}
theorem seal_take (F : FnOk P w K mg base (L2N.CX P w) k f fd ps (lift K mg spTakeU)) : FnOk P w K mg base (L2N.CX P w) k f fd ps (lift K mg spTake) := by
  refine F.imp fun vs H Q E ⟨wd, F, cs, ds, PD, PX, R, r, hs, q, x⟩ => ?_
  obtain ⟨n, m, ed, hc, h0, h1, hk⟩ := hs
  obtain ⟨a, u, f1, f2, f3, f4, f5⟩ := R.cell n _ hc
  obtain ⟨ns, p, c, z, ok, ro⟩ := drw_open f5
  have R' : Rl K wd F (put cs n (.lst (drwL ns p c z))) H := R.retell (n := n) (fun a' u' g1 g2 _ => by
    have : a' = a := Option.some.inj (g1.symm.trans f1)
    subst this
    rw [f4] at g2
    cases g2
    exact ro) ⟨_, hc⟩ (if_pos rfl) fun m hm => if_neg hm
  refine ⟨wd, F, put cs n (.lst (drwL ns p c z)), ds, fun d cs' => (∃ p' c' z', DrwOk ns p' c' z' ∧ cs' = put cs n (.lst (drwL ns p' c' z'))) ∧ PD d cs, fun _ _ => False, R', r, ⟨n, m, ns, p, c, z, ed, if_pos rfl, ok, h0, h1, fun p' c' z' y ok' y0 y1 => ⟨⟨p', c', z', ok', put_put⟩, hk y y0 y1⟩⟩, fun wd' d cs' v H' l R2 rv ⟨⟨p', c', z', ok', e⟩, hp⟩ => ?_, fun _ _ _ _ _ _ _ _ _ z => z.elim⟩
  subst e
  refine q wd' d cs v H' l (R2.retell (n := n) (o' := .drw) (fun a' u' _ _ ⟨o, ho, hr⟩ => ?_) ⟨_, if_pos rfl⟩ hc fun m hm => (if_neg hm).symm) rv hp
  rw [put_same] at ho
  cases ho
  exact drw_close ok' hr
theorem seal_start (F : FnOk P w K mg base (L2N.CX P w) k f fd ps (lift K mg spStartU)) : FnOk P w K mg base (L2N.CX P w) k f fd ps (lift K mg spStart) := by
  refine F.imp fun vs H Q E ⟨wd, F, cs, ds, PD, PX, R, r, hs, q, x⟩ => ?_
  obtain ⟨ed, hk⟩ := hs
  refine ⟨wd, F, cs, ds, fun d cs' => ∃ n ns p c z, cs n = none ∧ DrwOk ns p c z ∧ d = .ref n ∧ cs' = put cs n (.lst (drwL ns p c z)), fun _ _ => False, R, r, ⟨ed, fun n ns p c z hn ok => ⟨n, ns, p, c, z, hn, ok, rfl, rfl⟩⟩, fun wd' d cs' v H' l R2 rv ⟨n, ns, p, c, z, hn, ok, e1, e2⟩ => ?_, fun _ _ _ _ _ _ _ _ _ z => z.elim⟩
  subst e1 e2
  refine q wd' (.ref n) (put cs n .drw) v H' l (R2.retell (n := n) (o' := .drw) (fun a' u' _ _ ⟨o, ho, hr⟩ => ?_) ⟨_, if_pos rfl⟩ put_same fun m hm => (if_neg hm).trans (if_neg hm).symm) rv (hk n hn)
  rw [put_same] at ho
  cases ho
  exact drw_close ok hr
end
end G

namespace G
open PySem (Str)
def c_take_1 : S := (.asg (.nm 2) (.app sIx (.cons (.app sIx (.cons (.v 0) (.cons (.c (.int 0)) .nil))) (.cons (.app sIx (.cons (.v 0) (.cons (.c (.int 1)) .nil))) .nil))))
def c_take_2 : S := (.exp (.app sSetIx (.cons (.app sAdd (.cons (.app sIx (.cons (.v 0) (.cons (.c (.int 1)) .nil))) (.cons (.c (.int 1)) .nil))) (.cons (.v 0) (.cons (.c (.int 1)) .nil)))))
def c_take_3 : S := (.exp (.app sSetIx (.cons (.c (.int 0)) (.cons (.v 0) (.cons (.c (.int 2)) .nil)))))
def c_take_4 : S := (.exp (.app sSetIx (.cons (.v 2) (.cons (.v 0) (.cons (.c (.int 2)) .nil)))))
def c_take_5 : S := (.ite (.app sGe (.cons (.v 2) (.cons (.app sPow (.cons (.c (.int 10)) (.cons (.c (.int 18)) .nil))) .nil))) (c_take_4) .skip)
def c_take_6 : S := (.exp (.app sSetIx (.cons (.app sMod (.cons (.app sAdd (.cons (.app sAdd (.cons (.app sMul (.cons (.app sIx (.cons (.v 0) (.cons (.c (.int 3)) .nil))) (.cons (.c (.int 52711)) .nil))) (.cons (.app sMul (.cons (.app sMod (.cons (.v 2) (.cons (.c (.int 2305843009213693951)) .nil))) (.cons (.c (.int 7)) .nil))) .nil))) (.cons (.app sIx (.cons (.v 0) (.cons (.c (.int 1)) .nil))) .nil))) (.cons (.c (.int 2305843009213693951)) .nil))) (.cons (.v 0) (.cons (.c (.int 3)) .nil)))))
def c_take_7 : S := (.ite (.and (.app sLt (.cons (.app sIx (.cons (.v 0) (.cons (.c (.int 2)) .nil))) (.cons (.v 1) .nil))) (.app sLt (.cons (.app sIx (.cons (.v 0) (.cons (.c (.int 1)) .nil))) (.cons (.app sLen (.cons (.app sIx (.cons (.v 0) (.cons (.c (.int 0)) .nil))) .nil)) .nil)))) (.seq (c_take_1) (.seq (c_take_2) (.seq (c_take_3) (.seq (c_take_5) (c_take_6))))) .skip)
def c_take_8 : S := (.asg (.nm 3) (.app sMod (.cons (.app sIx (.cons (.v 0) (.cons (.c (.int 2)) .nil))) (.cons (.v 1) .nil))))
def c_take_9 : S := (.exp (.app sSetIx (.cons (.app sDiv (.cons (.app sIx (.cons (.v 0) (.cons (.c (.int 2)) .nil))) (.cons (.v 1) .nil))) (.cons (.v 0) (.cons (.c (.int 2)) .nil)))))
def c_take_10 : S := (.ret (.v 3))
def c_take_11 : S := (.ite (.app sGe (.cons (.app sIx (.cons (.v 0) (.cons (.c (.int 2)) .nil))) (.cons (.v 1) .nil))) (.seq (c_take_8) (.seq (c_take_9) (c_take_10))) .skip)
def c_take_12 : S := (.asg (.nm 4) (.app sMod (.cons (.app sMul (.cons (.app sIx (.cons (.v 0) (.cons (.c (.int 3)) .nil))) (.cons (.app sIx (.cons (.v 0) (.cons (.c (.int 3)) .nil))) .nil))) (.cons (.c (.int 2305843009213693951)) .nil))))
def c_take_13 : S := (.exp (.app sSetIx (.cons (.app sMod (.cons (.app sAdd (.cons (.app sAdd (.cons (.app sMul (.cons (.v 4) (.cons (.c (.int 48271)) .nil))) (.cons (.app sMul (.cons (.app sIx (.cons (.v 0) (.cons (.c (.int 3)) .nil))) (.cons (.c (.int 16807)) .nil))) .nil))) (.cons (.c (.int 12345)) .nil))) (.cons (.c (.int 2305843009213693951)) .nil))) (.cons (.v 0) (.cons (.c (.int 3)) .nil)))))
def c_take_14 : S := (.ret (.app sMod (.cons (.app sDiv (.cons (.app sIx (.cons (.v 0) (.cons (.c (.int 3)) .nil))) (.cons (.c (.int 1021)) .nil))) (.cons (.v 1) .nil))))
def c_take : S := (.seq (c_take_7) (.seq (c_take_11) (.seq (c_take_12) (.seq (c_take_13) (c_take_14)))))
theorem mulOk_r {i j : Int} (h : -(2 ^ 64) < j ∧ j < 2 ^ 64) : mulOk i j := .inr (.inl h)
theorem DrwOk.set {ns : List Int} {p c z : Int} (ok : DrwOk ns p c z) {p' c' z' : Int} (hp : 0 ≤ p') (hc : 0 ≤ c') (hz : 0 ≤ z') (hz1 : z' < 2305843009213693951) : DrwOk ns p' c' z' := ⟨ok.len, ok.big, hp, hc, hz, hz1⟩
theorem take_log {m : Int} (h : 0 < m) (h2 : m < 2 ^ 200) : m.natAbs.log2 < 9000 := by
  have : m.natAbs ≠ 0 := by omega
  exact Nat.lt_trans ((Nat.log2_lt this).mpr (show m.natAbs < 2 ^ 200 by omega)) (by decide)
theorem take_tail {cs : Cs} {Q : KD} {X : KX} {n : Nat} {m : Int} {ns : List Int} {p c z : Int} {t2 : Option D} (hc : cs n = some (.lst (drwL ns p c z))) (ok : DrwOk ns p c z) (hm : 0 < m) (hm2 : m < 2 ^ 200)
    (k : ∀ p' c' z' r, DrwOk ns p' c' z' → 0 ≤ r → r < m → Q (.int r) (put cs n (.lst (drwL ns p' c' z')))) :
    wpS (.seq c_take_11 (.seq c_take_12 (.seq c_take_13 c_take_14))) [some (.ref n), some (.int m), t2, none, none] cs { nx := fun _ cs' => Q .non cs', rt := Q, ex := fun x _ cs' => X x cs' } := by
  have z0 := ok.z0
  have z1 := ok.z1
  have r0 : ∀ x : Int, 0 ≤ x % m := fun x => Int.emod_nonneg _ (by omega)
  have r1 : ∀ x : Int, x % m < m := fun x => Int.emod_lt_of_pos _ hm
  have q0 : ∀ x : Int, 0 ≤ x % 2305843009213693951 := fun x => Int.emod_nonneg _ (by decide)
  have q1 : ∀ x : Int, x % 2305843009213693951 < 2305843009213693951 := fun x => Int.emod_lt_of_pos _ (by decide)
  simp only [wpS]
  rw [c_take_11]
  simp [hc, drwL]
  split
  · rw [c_take_8, c_take_9, c_take_10]
    simp [hc, drwL]
    refine ⟨hm, ⟨hm, take_log hm hm2⟩, ?_⟩
    exact k p (c / m) z (c % m) (ok.set ok.p0 (Int.ediv_nonneg ok.c0 (by omega)) z0 z1) (r0 _) (r1 _)
  · rw [c_take_12, c_take_13, c_take_14]
    simp [hc, drwL]
    refine ⟨mulOk_r (by omega), mulOk_r (by omega), mulOk_r (by omega), ⟨by decide, by decide⟩, hm, ?_⟩
    exact k p c _ _ (ok.set ok.p0 ok.c0 (q0 _) (q1 _)) (r0 _) (r1 _)
theorem ok_take : okFn 5 c_take spTakeU := by
  rintro ds cs Q X ⟨n, m, ns, p, c, z, rfl, hc, ok, hm, hm2, k⟩
  show wpS (.seq c_take_7 (.seq c_take_11 (.seq c_take_12 (.seq c_take_13 c_take_14)))) [some (.ref n), some (.int m), none, none, none] cs _
  have p0 := ok.p0
  have z0 := ok.z0
  have z1 := ok.z1
  have q0 : ∀ x : Int, 0 ≤ x % 2305843009213693951 := fun x => Int.emod_nonneg _ (by decide)
  have q1 : ∀ x : Int, x % 2305843009213693951 < 2305843009213693951 := fun x => Int.emod_lt_of_pos _ (by decide)
  have tl := fun (cs' : Cs) (t2 : Option D) (p' c' z' : Int) (hc' : cs' n = some (.lst (drwL ns p' c' z'))) (ok' : DrwOk ns p' c' z') (k' : ∀ p' c' z' r, DrwOk ns p' c' z' → 0 ≤ r → r < m → Q (.int r) (put cs' n (.lst (drwL ns p' c' z')))) => take_tail (X := X) (t2 := t2) hc' ok' hm hm2 k'
  simp only [wpS] at tl
  simp only [wpS]
  rw [c_take_7]
  simp [hc, drwL]
  split
  · split
    · rename_i h1 h2
      obtain ⟨j, rfl⟩ : ∃ j : Nat, p = j := ⟨p.toNat, by omega⟩
      have hl : (iD ns).length = ns.length := by simp [iD]
      have hj : j < ns.length := by omega
      have hix : ix (iD ns) (j : Int) = some (.int ns[j]) := ix_nat (by simp [iD, hj])
      rw [c_take_1, c_take_2, c_take_3]
      simp [hc, drwL, hix]
      rw [c_take_5]
      simp [hc, drwL, hix]
      refine ⟨by unfold powOk; omega, ?_⟩
      split
      · rw [c_take_4, c_take_6]
        simp [hc, drwL, hix]
        refine ⟨mulOk_r (by omega), mulOk_r (by omega), ?_⟩
        refine tl _ _ _ _ _ put_same (ok.set (by omega) (by omega) (q0 _) (q1 _)) fun p' c' z' r o' a b => ?_
        rw [put_put]
        exact k p' c' z' r o' a b
      · rw [c_take_6]
        simp [hc, drwL, hix]
        refine ⟨mulOk_r (by omega), mulOk_r (by omega), ?_⟩
        refine tl _ _ _ _ _ put_same (ok.set (by omega) (by omega) (q0 _) (q1 _)) fun p' c' z' r o' a b => ?_
        rw [put_put]
        exact k p' c' z' r o' a b
    · exact tl _ _ _ _ _ hc ok k
  · exact tl _ _ _ _ _ hc ok k
end G

namespace G
open PySem (Str)
def c_of_1 (p__law_take : G.Spec) : S := (.ret (.app sIx (.cons (.v 1) (.cons (.app p__law_take (.cons (.v 0) (.cons (.app sLen (.cons (.v 1) .nil)) .nil))) .nil))))
def c_of (p__law_take : G.Spec) : S := (c_of_1 p__law_take)
def c_same_1 (p__law_same : G.Spec) : S := (.ret (.app sIsN (.cons (.v 0) (.cons (.c .non) .nil))))
def c_same_2 (p__law_same : G.Spec) : S := (.ite (.app sIsN (.cons (.v 1) (.cons (.c .non) .nil))) (c_same_1 p__law_same) .skip)
def c_same_3 (p__law_same : G.Spec) : S := (.ret (.c (.bl false)))
def c_same_4 (p__law_same : G.Spec) : S := (.ite (.or (.app sNe (.cons (.app (sIsi .list) (.cons (.v 0) .nil)) (.cons (.app (sIsi .list) (.cons (.v 1) .nil)) .nil))) (.app sNe (.cons (.app (sIsi .tuple) (.cons (.v 0) .nil)) (.cons (.app (sIsi .tuple) (.cons (.v 1) .nil)) .nil)))) (c_same_3 p__law_same) .skip)
def c_same_5 (p__law_same : G.Spec) : S := (.ret (.and (.app sEq (.cons (.app sLen (.cons (.v 0) .nil)) (.cons (.app sLen (.cons (.v 1) .nil)) .nil))) (.app sAll (.cons (.comp false [2, 3] (.tup (.cons (.nm 2) (.cons (.nm 3) .nil))) iZip (.cons (.v 0) (.cons (.v 1) .nil)) (.c (.bl true)) (.app p__law_same (.cons (.v 2) (.cons (.v 3) .nil)))) .nil))))
def c_same_6 (p__law_same : G.Spec) : S := (.ite (.app (sIsi2 .list .tuple) (.cons (.v 1) .nil)) (.seq (c_same_4 p__law_same) (c_same_5 p__law_same)) .skip)
def c_same_7 (p__law_same : G.Spec) : S := (.ret (.c (.bl false)))
def c_same_8 (p__law_same : G.Spec) : S := (.ite (.or (.app sNe (.cons (.app (sIsi .bool) (.cons (.v 1) .nil)) (.cons (.app (sIsi .bool) (.cons (.v 0) .nil)) .nil))) (.app sNe (.cons (.app (sIsi .int) (.cons (.v 1) .nil)) (.cons (.app (sIsi .int) (.cons (.v 0) .nil)) .nil)))) (c_same_7 p__law_same) .skip)
def c_same_9 (p__law_same : G.Spec) : S := (.ret (.and (.app sEq (.cons (.app (sIsi .str) (.cons (.v 1) .nil)) (.cons (.app (sIsi .str) (.cons (.v 0) .nil)) .nil))) (.app sEq (.cons (.v 0) (.cons (.v 1) .nil)))))
def c_same (p__law_same : G.Spec) : S := (.seq (c_same_2 p__law_same) (.seq (c_same_6 p__law_same) (.seq (c_same_8 p__law_same) (c_same_9 p__law_same))))
theorem ok_of : okFn 2 (c_of spTake) spOf := by
  rintro ds cs Q X ⟨n, x, xs, rfl, hc, hx, hq, ne, hl, k⟩
  show wpS (c_of_1 spTake) [some (.ref n), some x] cs _
  rw [c_of_1]
  simp [sLen_e hx, hq]
  have l0 : 0 < xs.length := List.length_pos_iff.mpr ne
  refine ⟨n, xs.length, rfl, hc, by omega, by simp [lim] at hl; omega, fun r h0 h1 => ?_⟩
  obtain ⟨j, rfl⟩ : ∃ j : Nat, r = j := ⟨r.toNat, by omega⟩
  have hj : j < xs.length := by omega
  simp [hq, ix_nat (List.getElem?_eq_getElem hj)]
  exact k _ (List.getElem_mem hj)
@[simp] theorem sIsN_e {x : D} {cs : Cs} {Q : KD} {X : KX} : sIsN [x, .non] cs Q X = Q (.bl (isN x)) cs := rfl
@[simp] theorem sNotN_e {x : D} {cs : Cs} {Q : KD} {X : KX} : sNotN [x, .non] cs Q X = Q (.bl (!isN x)) cs := rfl
@[simp] theorem sIsi_e {t : Ty} {x : D} {cs : Cs} {Q : KD} {X : KX} : sIsi t [x] cs Q X = match isTy cs x t with
    | some b => Q (.bl b) cs
    | none => False := rfl
@[simp] theorem sIsi2_e {t t' : Ty} {x : D} {cs : Cs} {Q : KD} {X : KX} : sIsi2 t t' [x] cs Q X = match isTy cs x t, isTy cs x t' with
    | some a, some b => Q (.bl (a || b)) cs
    | _, _ => False := rfl
theorem sEq_e {x y : D} {cs : Cs} {Q : KD} {X : KX} : sEq [x, y] cs Q X = (pur 64 (deref cs x) = true ∧ pur 64 (deref cs y) = true ∧ Q (.bl (eqD (deref cs x) (deref cs y))) cs) := rfl
theorem sNe_e {x y : D} {cs : Cs} {Q : KD} {X : KX} : sNe [x, y] cs Q X = (pur 64 (deref cs x) = true ∧ pur 64 (deref cs y) = true ∧ Q (.bl (!eqD (deref cs x) (deref cs y))) cs) := rfl
@[simp] theorem sEq_i {i j : Int} {cs : Cs} {Q : KD} {X : KX} : sEq [.int i, .int j] cs Q X = Q (.bl (i == j)) cs := by simp [sEq, deref, pur, eqD]
@[simp] theorem sNe_i {i j : Int} {cs : Cs} {Q : KD} {X : KX} : sNe [.int i, .int j] cs Q X = Q (.bl (!(i == j))) cs := by simp [sNe, deref, pur, eqD]
@[simp] theorem sEq_b {i j : Bool} {cs : Cs} {Q : KD} {X : KX} : sEq [.bl i, .bl j] cs Q X = Q (.bl (i == j)) cs := by simp [sEq, deref, pur, eqD]
@[simp] theorem sNe_b {i j : Bool} {cs : Cs} {Q : KD} {X : KX} : sNe [.bl i, .bl j] cs Q X = Q (.bl (!(i == j))) cs := by simp [sNe, deref, pur, eqD]
@[simp] theorem sAll_e {x : D} {cs : Cs} {Q : KD} {X : KX} : sAll [x] cs Q X = match getL x cs with
    | some xs => match asBools xs with
      | some bs => Q (.bl (bs.all id)) cs
      | none => False
    | none => False := rfl
theorem map_const {α : Type} {d : D} : ∀ xs : List α, xs.map (fun _ => d) = List.replicate xs.length d
  | [] => rfl
  | x :: xs => by simp [map_const xs, List.replicate_succ]
end G

/-! GLaw: the laws' helpers, as rewriting rules. -/
namespace G
open PySem (Str)
theorem spTake_e {n : Nat} {m : Int} {cs : Cs} {Q : KD} {X : KX} : spTake [.ref n, .int m] cs Q X = (cs n = some .drw ∧ 0 < m ∧ m < 2 ^ 200 ∧ ∀ r, 0 ≤ r → r < m → Q (.int r) cs) := by
  apply propext
  constructor
  · rintro ⟨_, _, h, hc, h0, h1, k⟩
    cases h
    exact ⟨hc, h0, h1, k⟩
  · rintro ⟨hc, h0, h1, k⟩
    exact ⟨_, _, rfl, hc, h0, h1, k⟩
theorem spOf_e {n : Nat} {x : D} {cs : Cs} {Q : KD} {X : KX} : spOf [.ref n, x] cs Q X = (cs n = some .drw ∧ (∀ s, x ≠ .str s) ∧ ∃ xs, getQ x cs = some xs ∧ xs ≠ [] ∧ xs.length ≤ lim ∧ ∀ d ∈ xs, Q d cs) := by
  apply propext
  constructor
  · rintro ⟨_, _, xs, h, hc, h1, h2, h3, h4, k⟩
    cases h
    exact ⟨hc, h1, xs, h2, h3, h4, k⟩
  · rintro ⟨hc, h1, xs, h2, h3, h4, k⟩
    exact ⟨_, _, _, rfl, hc, h1, h2, h3, h4, k⟩
theorem spStart_e {cs : Cs} {Q : KD} {X : KX} : spStart [.scr] cs Q X = (∀ n, cs n = none → Q (.ref n) (put cs n .drw)) := by
  apply propext
  constructor
  · rintro ⟨_, h⟩
    exact h
  · exact fun h => ⟨rfl, h⟩
@[simp] theorem sNot_e {b : Bool} {cs : Cs} {Q : KD} {X : KX} : sNot [.bl b] cs Q X = Q (.bl (!b)) cs := rfl
@[simp] theorem sNeg_e {i : Int} {cs : Cs} {Q : KD} {X : KX} : sNeg [.int i] cs Q X = Q (.int (-i)) cs := rfl
@[simp] theorem sList_e {ds : List D} {cs : Cs} {Q : KD} {X : KX} : sList ds cs Q X = (ds.length ≤ lim ∧ Q (.lst ds) cs) := rfl
@[simp] theorem sTup_e {ds : List D} {cs : Cs} {Q : KD} {X : KX} : sTup ds cs Q X = (ds.length ≤ lim ∧ Q (.tup ds) cs) := rfl
@[simp] theorem sListM_e {ds : List D} {cs : Cs} {Q : KD} {X : KX} : sListM ds cs Q X = (ds.length ≤ lim ∧ ∀ n, cs n = none → Q (.ref n) (put cs n (.lst ds))) := rfl
@[simp] theorem sAdd_l {a b : List D} {cs : Cs} {Q : KD} {X : KX} : sAdd [.lst a, .lst b] cs Q X = (a.length + b.length ≤ lim ∧ Q (.lst (a ++ b)) cs) := rfl
theorem rgD_length {a b : Int} : (rgD a b).length = (b - a).toNat := by simp [rgD]
theorem rgD_get {a b : Int} {j : Nat} {x : D} (h : (rgD a b)[j]? = some x) : x = .int (a + j) := by
  unfold rgD at h
  rw [List.getElem?_map] at h
  cases e : (List.range (b - a).toNat)[j]? with
  | none =>
    rw [e] at h
    cases h
  | some i =>
    rw [e] at h
    have h2 : i = j := by
      have := List.getElem?_eq_some_iff.mp e
      obtain ⟨h3, h4⟩ := this
      rw [List.getElem_range] at h4
      exact h4.symm
    subst h2
    exact (Option.some.inj h).symm
/-- a counting loop whose body changes the state by an invariant -/
theorem rng1_inv {i : Nat} {body : Sl → Cs → Ends → Prop} {K : Ends} {σ : Sl} {cs : Cs} {b : Int} (I : Nat → Sl → Cs → Prop) (lo : -(2 ^ 62) ≤ b) (hi : b < 2 ^ 62) (h0 : I 0 σ cs)
    (hs : ∀ (j : Nat) σ cs, (j : Int) < b → I j σ cs → ∀ K', (∀ σ' cs', I (j + 1) σ' cs' → K'.nx σ' cs') → (∀ σ' cs', I (j + 1) σ' cs' → K'.ct σ' cs') → K'.bk = K.bk ∨ K'.bk = K.nx → K'.rt = K.rt → K'.ex = K.ex → body (σ.set i (some (.int j))) cs K')
    (hd : ∀ σ cs, I b.toNat σ cs → K.nx σ cs) : iRng1 [.int b] cs fun items grd => forL (.nm i) grd body K items σ cs := by
  refine ⟨lo, hi, forL_inv I _ 0 h0 (fun _ _ _ _ _ _ => trivial) (fun j x σ cs hj hI => ?_) (fun σ cs h => hd σ cs ?_)⟩
  · have e := rgD_get hj
    subst e
    have hj2 : j < (rgD 0 b).length := (List.getElem?_eq_some_iff.mp hj).1
    rw [rgD_length] at hj2
    rw [Nat.zero_add] at hI
    refine ⟨_, rfl, fun K' a1 a2 a3 a4 a5 => ?_⟩
    rw [show ((0 : Int) + (j : Int)) = (j : Int) by omega]
    rw [Nat.zero_add] at a1 a2
    exact hs j σ cs (by omega) hI K' a1 a2 (.inr a3) a4 a5
  · rw [Nat.zero_add, rgD_length, Int.sub_zero] at h
    exact h
theorem powOk_c {i j : Int} (h : 0 ≤ j ∧ j ≤ 1000000 ∧ i.natAbs < 2 ^ 64) : powOk i j := h
/-! ### the start of a draw -/
def c_start_1 : S := (.ret (.app sListM (.cons (.app sListOf (.cons (.app sCutScr (.cons (.v 0) .nil)) .nil)) (.cons (.c (.int 0)) (.cons (.c (.int 0)) (.cons (.app sAdd (.cons (.c (.int 9494)) (.cons (.app sMul (.cons (.c (.int 37)) (.cons (.app sLen (.cons (.app sCutScr (.cons (.v 0) .nil)) .nil)) .nil))) .nil))) .nil))))))
def c_start : S := (c_start_1)
@[simp] theorem sCutScr_e {cs : Cs} {Q : KD} {X : KX} : sCutScr [.scr] cs Q X = ∀ ns : List Int, ns.length ≤ 63 → (∀ n ∈ ns, n.natAbs < 2 ^ (2 ^ 20)) → Q (.lst (ns.map D.int)) cs := rfl
@[simp] theorem sListOf_e {x : D} {cs : Cs} {Q : KD} {X : KX} : sListOf [x] cs Q X = match getQ x cs with
    | some xs => Q (.lst xs) cs
    | none => False := rfl
theorem ok_start : okFn 1 c_start spStartU := by
  rintro ds cs Q X ⟨rfl, k⟩
  show wpS c_start_1 [some .scr] cs _
  rw [c_start_1]
  simp only [wpS, wpE, wpEs, getV, sCutScr_e]
  intro ns h1 h2
  simp only [sListOf_e, getQ_lst]
  intro ms h3 h4
  rw [sLen_e (by intro s e; cases e)]
  simp only [getQ_lst, sMul_i, sAdd_i, sListM_e, List.length_map]
  refine ⟨mulOk_r (by omega), show 4 ≤ 16777216 by decide, fun n hn => ?_⟩
  exact k n ns 0 0 _ hn ⟨h1, h2, by decide, by decide, by omega, by omega⟩
end G

/-! GEnd: from facts of the top to defs' promises; the law's end. -/
namespace G
open PySem PySem.Spec L2
/-- the law's promise -/
def spLaw : Spec := fun ds cs Q _ => ds = [.scr] ∧ ∀ cs', Q (.bl true) cs'
section
variable {P : Program} {w : World} {K : PySem.W.Frag} {mg : Str → Option Value} {base : Heap} {x qual : Str} {params : Arguments} {body : List Stmt} {scope : Scope} {f : Addr} {fd : FuncData} {ps ks : List Str} {k n : Nat} {sp : Spec} {ix : List Nat}
theorem fnOk_false : FnOk P w K mg base (L2N.CX P w) 0 f fd ps (lift K mg fun _ _ _ _ => False) :=
  ⟨fun vs H Q E ⟨_, _, _, _, _, _, _, _, h, _⟩ => h.elim, fun A outer s H args us vs Q E _ _ _ _ ⟨_, _, _, _, _, _, _, _, h, _⟩ => h.elim⟩
theorem fnk_mk (FD : FunD K x qual params body scope [] [] f fd) (hm : mg x = some (.ref f)) (ok : FnOk P w K mg base (L2N.CX P w) k f fd ps (lift K mg sp))
    (hb : ∀ (kV doc pm : Value) (an : Option Addr) (cdv ct : Value) (us ws : List Value), us.length = n → ws.length = ks.length → bindArgs (PySem.W.fnOf x qual params body scope .none kV doc pm an cdv ct) ⟨us, ks.zip ws⟩ = pure (ps.zip (permL ix (us ++ ws)))) : FnK P w K mg base x k n ks ix sp := by
  refine ⟨f, fd, ps, hm, ok, FD.kp, fun s us ws h1 h2 => ?_⟩
  obtain ⟨oc, od, dV, kV, doc, pm, an, cdv, ct, osl, rfl, lk, hcd, hD, hK⟩ := FD.ex
  rcases hD with ⟨_, rfl⟩ | ⟨e, _⟩
  · exact .of_eq (hb kV doc pm an cdv ct us ws h1 h2)
  · exact absurd rfl e
end
theorem bits_lt {n : Int} (h : Builtin.Int.intBits n ≤ 1048576) : n.natAbs < 2 ^ (2 ^ 20) := by
  unfold Builtin.Int.intBits at h
  by_cases e : n = 0
  · subst e
    exact Nat.two_pow_pos _
  · have e2 : (n == 0) = false := by simp [e]
    rw [e2] at h
    have h3 : n.natAbs.log2 + 1 ≤ 1048576 := h
    have h4 : n.natAbs.log2 < 2 ^ 20 := by
        omega
    exact (Nat.log2_lt (by omega)).mp h4
/-- what is known of the heap at the start: all but the tables -/
def noT (H : Hp) : Hp := fun a => match H a with
  | some (.tbl _) => none
  | o => o
theorem noT_eq {H : Hp} {a : Addr} {o : HO} (h : H a = some o) (n : ∀ q, o ≠ .tbl q) : noT H a = some o := by
  unfold noT
  rw [h]
  cases o <;> first | rfl | exact absurd rfl (n _)
theorem of_noT {H : Hp} {a : Addr} {o : HO} (h : noT H a = some o) : H a = some o ∧ ∀ q, o ≠ .tbl q := by
  unfold noT at h
  cases e : H a with
  | none => rw [e] at h; cases h
  | some u =>
    rw [e] at h
    cases u <;> first | (cases h; done) | (cases h; exact ⟨rfl, fun q z => by cases z⟩)
theorem noT_l {K : PySem.W.Frag} {H : Hp} {a : Addr} {xs : List V} (h : SqL K H a xs) : SqL K (noT H) a xs := by
  rcases h with (h | ⟨o, h⟩) | h
  · exact .inl (.inl (noT_eq h fun q z => by cases z))
  · exact .inl (.inr ⟨o, noT_eq h fun q z => by cases z⟩)
  · exact .inr h
theorem law_start {K : PySem.W.Frag} {mg : Str → Option Value} {H : Hp} {a : Addr} {ns : List Int} (hl : ns.length ≤ 63) (hb : ∀ z ∈ ns, Builtin.Int.intBits z ≤ 1048576) (hT : ∀ p ∈ tabsOf K, H p.1 = some (.tbl #[])) (hS : SqL K H a (ns.map V.int)) : lift K mg spLaw [.ref a] H (fun v _ => v = .bl true) fun _ _ _ => False := by
  have R : Rl K ⟨noT H, fun _ => none, 0⟩ (fun _ => none) (fun _ => none) H := by
    constructor
    · exact fun a o e => (of_noT e).1
    · intro a o e
      cases e
    · exact fun _ _ _ => rfl
    · intro n m a e
      cases e
    · intro n o e
      cases e
    · intro n a e
      cases e
    · exact fun _ _ => rfl
    · intro n a e
      cases e
    · intro a o e
      cases e
    · exact fun p hp => ⟨#[], hT p hp, True.intro, fun pos cv hc => by
        have z : codeAmong pos [] = some cv := hc
        simp [codeAmong] at z⟩
    · exact fun a q e => (of_noT e).2 q rfl
  have r : RpL K ⟨noT H, fun _ => none, 0⟩ [.scr] [.ref a] := ⟨.ref a, [], rfl, ⟨a, ns, rfl, noT_l hS, hl, fun z hz => bits_lt (hb z hz)⟩, rfl⟩
  refine ⟨_, _, _, [.scr], fun d _ => d = .bl true, fun _ _ => False, R, r, ⟨rfl, fun _ => rfl⟩, ?_, ?_⟩
  · intro wd' d cs v H' _ _ r e
    subst e
    exact r
  · intro _ _ _ _ _ _ _ _ _ z
    exact z.elim
/-- the tables that K leaves out are those of tf -/
def tabsB (tf : List He.Defn) (K : PySem.W.Frag) : Bool := (tabsOf K).all fun p => tf.any fun d => (He.cT K d).2 == p.1
theorem tabsB_ok {tf : List He.Defn} {K : PySem.W.Frag} (h : tabsB tf K = true) {p : Addr × Str} (hp : p ∈ tabsOf K) : ∃ d ∈ tf, (He.cT K d).2 = p.1 := by
  obtain ⟨d, hd, e⟩ := List.any_eq_true.mp (List.all_eq_true.mp h p hp)
  exact ⟨d, hd, beq_iff_eq.mp e⟩
end G

/-! GMore: slices, reversed, repeated, sorted lists; what is not reached. -/
namespace G
open PySem PySem.Spec L2
open Evl (Ex)
def cutD (xs : List D) (lo hi : Option Int) : List D := (xs.drop (sIxAt xs.length 0 lo)).take (sIxAt xs.length xs.length hi - sIxAt xs.length 0 lo)
def sSl (lo hi : Option Int) (x : D) (cs : Cs) (Q : KD) : Prop := match x with
  | .tup xs => ¬ (sIxAt xs.length 0 lo = 0 ∧ sIxAt xs.length xs.length hi = xs.length) ∧ Q (.tup (cutD xs lo hi)) cs
  | x => match getL x cs with
    | some xs => Q (.lst (cutD xs lo hi)) cs
    | none => False
def sCutHi : Spec := fun ds cs Q _ => match ds with
  | [x, .int i] => sSl none (some i) x cs Q
  | _ => False
def sCutLo : Spec := fun ds cs Q _ => match ds with
  | [x, .int i] => sSl (some i) none x cs Q
  | _ => False
def sRev : Spec := fun ds cs Q _ => match ds with
  | [x] => match getL x cs with
    | some xs => Q (.lst xs.reverse) cs
    | none => False
  | _ => False
def sSorted : Spec := fun ds cs Q _ => match ds with
  | [x] => match getL x cs with
    | some xs => ∃ ns : List Int, xs = ns.map D.int ∧ ∀ ns' : List Int, ns'.Perm ns → ns'.Pairwise (· ≤ ·) → Q (.lst (ns'.map D.int)) cs
    | none => False
  | _ => False
theorem RpL.reverse {K : PySem.W.Frag} {wd : Wd} : ∀ {ds : List D} {vs : List V}, RpL K wd ds vs → RpL K wd ds.reverse vs.reverse
  | [], vs, h => by
    have e : vs = [] := h
    subst e
    exact rfl
  | d :: ds, vs, h => by
    obtain ⟨v, r, e, a, b⟩ := h
    subst e
    rw [List.reverse_cons, List.reverse_cons]
    exact (RpL.reverse b).append ⟨v, [], rfl, a, rfl⟩
section
variable {X : Cx} {W : WX} {pos p1 p2 p3 p : Pos} {a b c e : Expr} {ca cb cc : E} {K : PySem.W.Frag}
theorem cut_rp {wd : Wd} {ds : List D} {vs : List V} (r : RpL K wd ds vs) (lo hi : Option Int) : RpL K wd (cutD ds lo hi) (cutV vs lo hi) := by
  have e : ∀ (n d : Nat) (o : Option Int), sIxAt n d o = HT.sIx n d o := fun n d o => by cases o <;> rfl
  unfold cutD cutV
  rw [r.length, e, e]
  exact (r.drop _).take _
theorem ref_sl {wd : Wd} {F H : Hp} {cs : Cs} {x : D} {v : V} {lo hi : Option Int} {P : KD} {Q : VK} (R : Rl K wd F cs H) (rv : Rp K wd x v) (h : sSl lo hi x cs P) (q : QOk K wd F P Q) : rSlL K v lo hi H Q ∨ rSlT K v lo hi H Q := by
  have byL : (match getL x cs with
      | some xs => P (.lst (cutD xs lo hi)) cs
      | none => False) → rSlL K v lo hi H Q := fun h => by
    cases ex : G.getL x cs with
    | none =>
      rw [ex] at h
      exact h.elim
    | some xs =>
      rw [ex] at h
      obtain ⟨a, ws, ev, hs, r⟩ := R.getL rv ex
      refine ⟨a, ws, ev, SqL.of hs, fun p hp => ?_⟩
      obtain ⟨wd2, l2, R2, r2⟩ := R.lst hp (cut_rp r lo hi)
      exact q wd2 _ cs _ _ l2 R2 r2 h
  cases x with
  | tup xs =>
    obtain ⟨a, ws, ev, hs, r⟩ := rv
    have e : ∀ (n d : Nat) (o : Option Int), sIxAt n d o = HT.sIx n d o := fun n d o => by cases o <;> rfl
    refine .inr ⟨a, ws, ev, SqT.of (R.b _ _ hs), ?_, fun p hp => ?_⟩
    · have h1 := h.1
      rw [e, e, ← r.length] at h1
      exact h1
    · obtain ⟨wd2, l2, R2, r2⟩ := R.tup hp (cut_rp r lo hi)
      exact q wd2 _ cs _ _ l2 R2 r2 h.2
  | lst xs => exact .inl (byL h)
  | ref n => exact .inl (byL h)
  | _ => exact h.elim
theorem sCutHi_inv {d e : D} {cs : Cs} {Q : KD} {PX : KX} (h : sCutHi [d, e] cs Q PX) : ∃ i, e = .int i ∧ sSl none (some i) d cs Q := by
  unfold sCutHi at h
  split at h
  · rename_i x i ee
    cases ee
    exact ⟨_, rfl, h⟩
  · exact h.elim
theorem sCutLo_inv {d e : D} {cs : Cs} {Q : KD} {PX : KX} (h : sCutLo [d, e] cs Q PX) : ∃ i, e = .int i ∧ sSl (some i) none d cs Q := by
  unfold sCutLo at h
  split at h
  · rename_i x i ee
    cases ee
    exact ⟨_, rfl, h⟩
  · exact h.elim
theorem j_cutHi (ha : JE X W a ca) (hb : JE X W b cb) : JE X W (.Subscript a (.Slice none (some b) none p2) pos) (.app sCutHi (.cons ca (.cons cb .nil))) := by
  obtain ⟨ta, q1, r1⟩ := ha
  obtain ⟨tb, q2, r2⟩ := hb
  refine ⟨_, pe_slice (sl_list.or sl_tup) q1 po_none (po_some q2), fun wd F τ cs σ H P PX Q R rs h q x => ?_⟩
  refine r1 wd F τ cs σ H _ PX _ R rs h (fun wd1 d c1 v H1 l1 R1 rv h1 => ?_) x
  refine r2 wd1 F τ c1 σ H1 _ PX _ R1 (rs.mono l1) h1 (fun wd2 e c2 u H2 l2 R2 ru h2 => ?_) (x.mono l1)
  obtain ⟨i, ei, h3⟩ := sCutHi_inv (PX := PX) h2
  subst ei
  exact ⟨i, ru, ref_sl R2 (rv.mono l2) h3 (q.mono (l1.trans l2))⟩
theorem j_cutLo (ha : JE X W a ca) (hb : JE X W b cb) : JE X W (.Subscript a (.Slice (some b) none none p2) pos) (.app sCutLo (.cons ca (.cons cb .nil))) := by
  obtain ⟨ta, q1, r1⟩ := ha
  obtain ⟨tb, q2, r2⟩ := hb
  refine ⟨_, pe_slice (sl_list.or sl_tup) q1 (po_some q2) po_none, fun wd F τ cs σ H P PX Q R rs h q x => ?_⟩
  refine r1 wd F τ cs σ H _ PX _ R rs h (fun wd1 d c1 v H1 l1 R1 rv h1 => ?_) x
  refine r2 wd1 F τ c1 σ H1 _ PX _ R1 (rs.mono l1) h1 (fun wd2 e c2 u H2 l2 R2 ru h2 => ?_) (x.mono l1)
  obtain ⟨i, ei, h3⟩ := sCutLo_inv (PX := PX) h2
  subst ei
  exact ⟨i, ru, ref_sl R2 (rv.mono l2) h3 (q.mono (l1.trans l2))⟩
end
end G

/-! GEnum: enumerate over lists and tuples. -/
namespace G
open PySem PySem.Spec L2
open Evl (Ex)
abbrev tIt (l : Addr) : Obj := { cls := .type "tuple_iterator", data := .fields #[.ref l, .int 0 0] }
abbrev eOb (i : Addr) : Obj := { cls := .type "enumerate", data := .fields #[.none, .bool false, .ref i, rawInt 0, .none, .none] }
open AutoSeq1 (wpAny_loadPart') in
theorem new_enumT (l : Addr) (items : Array Value) (n : Nat) (dct : Option Addr) (sl : Array (Option Value)) :
    Meets (Builtin.«enumerate.__new__» ⟨[.type "enumerate", .ref l], []⟩) (fun _ R s => s.heap.get? l = some ⟨.type "tuple", dct, .seq items n, sl⟩ ∧
      R (.ok (.ret (.ref (s.heap.push (tIt l)).objs.size))) { s with heap := (s.heap.push (tIt l)).push (eOb s.heap.objs.size) }) := by
  refine .of_wp fun prog w A R s h => ?_
  obtain ⟨hp, gs, dr, tk, os⟩ := s
  obtain ⟨hl, h⟩ := h
  have sub := sub_enumerate
  have isT : Heap.IsTuple (Shared.heap ⟨hp, gs, dr, tk, os⟩) l items := ⟨_, hl, rfl, n, rfl⟩
  wp_walk using wpAny_loadPart' hl
  refine wpAny_stack_any fun st => wpAny_pure ?_
  split
  · rename_i c _ _ _ _ _
    cases (c == Value.type "enumerate") <;> (wp_walk using wpAny_loadPart' hl, wpAny_pyIter_tuple isT; exact ⟨_, rfl, h⟩)
  · wp_walk using wpAny_loadPart' hl, wpAny_pyIter_tuple isT
    exact ⟨_, rfl, h⟩
theorem call_enumT {prog : Program} {w : World} {A : Around} {E : Value → Shared → Prop} {s : Shared} {l : Addr} {items : Array Value} {Q : Value → Shared → Prop} (hT : s.heap.IsTuple l items)
    (h : ∀ h', IsEnum h' (s.heap.objs.size + 1) s.heap.objs.size 0 .none → h'.IsTupleIter s.heap.objs.size l 0 → (∀ b o, s.heap.get? b = some o → h'.get? b = some o) → Q (.ref (s.heap.objs.size + 1)) { s with heap := h' }) :
    wpAny (model prog w) A (PySem.call (.type "enumerate") [.ref l]) Q E s := by
  obtain ⟨⟨c, dct, dt, sl⟩, hl, hc, n, hd⟩ := hT
  have hc : c = .type "tuple" := hc
  have hd : dt = .seq items n := hd
  subst hc
  subst hd
  refine callType_new F.called_enumerate (by decide) (F.typeCall_enumerate_1 _) (F.newCall_enumerate_1 _) (fun obj => F.args_object_init_2 obj _) F.entry_enumerate_new (new_enumT l items n dct sl) ⟨hl, ?_⟩
  have hz : (s.heap.push (tIt l)).objs.size = s.heap.objs.size + 1 := Heap.size_push ..
  show _ ∧ _
  rw [hz]
  have he : IsEnum ((s.heap.push (tIt l)).push (eOb s.heap.objs.size)) (s.heap.objs.size + 1) s.heap.objs.size 0 .none := by
    have q := Heap.get?_push_size (s.heap.push (tIt l)) (o := eOb s.heap.objs.size) rfl
    rw [hz] at q
    exact q
  exact ⟨⟨_, he, rfl⟩, h _ he ⟨_, Heap.get?_push_of_some _ (Heap.get?_push_size _ rfl), rfl, rfl⟩ fun b o x => Heap.get?_push_of_some _ (Heap.get?_push_of_some _ x)⟩
/-- the tuple at a, each item in a new pair -/
def IteT (K : PySem.W.Frag) (a : Addr) : It :=
  ⟨fun i H => ∃ (xs : List V) (x : V), SqT K H a xs ∧ xs[i]? = some x, fun i H v H' => ∃ T x, v = .ref T ∧ H T = none ∧ H' = upd H T (.tup [.int (i : Nat), x]) ∧ ∀ xs, SqT K H a xs → xs[i]? = some x, fun i H => ∃ xs : List V, SqT K H a xs ∧ i = xs.length⟩
theorem turn_enumT {P : Program} {w : World} {K : PySem.W.Frag} {elts : List Expr} {kk : Nat} {tpos : Pos} (a e it : Addr) (hai : a ≠ it) (hae : a ≠ e) :
    Turn P w K (.Tuple elts kk tpos) (IteT K a) [e, it] e (fun i h => (∃ old, IsEnum h e it ((i : Nat) : Int) old) ∧ h.IsTupleIter it a i ∧ e ≠ it) := by
  have two : ∀ b, b ∈ [e, it] → b = e ∨ b = it := fun b hb => by simpa using hb
  refine ⟨by simp, ?obj, ?keep, ?item, ?done, ?self⟩
  case obj =>
    intro i h st b hb
    obtain ⟨⟨old, he⟩, ⟨o, ho, hc, hd⟩, _⟩ := st
    rcases two b hb with z | z
    · rw [z]
      exact ⟨_, he, fun v q => nomatch q⟩
    · rw [z]
      exact ⟨o, ho, fun v q => by rw [hd] at q; cases q⟩
  case keep =>
    intro i h h' st k
    obtain ⟨⟨old, he⟩, hi, hne⟩ := st
    exact ⟨⟨old, k e (by simp) _ he⟩, hi.at fun o q => k it (by simp) o q, hne⟩
  case self =>
    intro A i s Q E st h
    obtain ⟨⟨_, he⟩, _⟩ := st
    exact wpAny_pyIter_enum he h
  case item =>
    intro X hP hw hK hc i pins s σ H E I hf st hg
    subst hP hw hK
    obtain ⟨⟨old, he⟩, hit, hne⟩ := st
    obtain ⟨xs, x, hq, hx⟩ := hg
    obtain ⟨its, rv, p, hz⟩ := I.tuple hq
    obtain ⟨u, hu, ru⟩ := rv.get hx
    have hel : e < s.heap.objs.size := Heap.lt_size he
    have hil : it < s.heap.objs.size := by obtain ⟨_, q, _⟩ := hit; exact Heap.lt_size q
    have hh : X.A.in1.handled = none := by
      have := I.ok.hd hc
      first | exact this | simpa using this
    have D := Draws.tuple (prog := X.prog) (w := X.w) (A := X.A.in1) hh it a hai its.toArray
    refine wpAny_pyNext_enum_itemD D he ⟨hit, show s.heap.IsTuple a its.toArray from p⟩ (by rw [List.size_toArray]; exact (List.getElem?_eq_some_iff.mp hu).1) hne (by simp [hne, Ne.symm hae]) fun y h' tk hy ho hst hT hsz hk => ?_
    have hy : y = u := by
      have : some y = some u := by rw [← hu, ← hy]; simp
      exact Option.some.inj this
    subst hy
    refine ⟨_, rfl, wpAny_letOwnedTupleGo_enum (s := { s with heap := h', toks := tk + 1 }) ho fun h2 he2 sb => ?_⟩
    have hT2 : h2.get? s.heap.objs.size = some { cls := .type "tuple", data := .seq #[.int i tk, y] } := (sb.2 _ (Nat.ne_of_gt hel)).trans hT
    have new : ObjOk X.prog X.w (upd H s.heap.objs.size (.tup [.int (i : Nat), x])) h2 s.heap.objs.size (.tup [.int (i : Nat), x]) :=
      ⟨by show 2 ≤ sizeLine; decide, [.int i tk, y], .cons ⟨_, rfl⟩ (.cons ru .nil), ⟨_, hT2, rfl, _, rfl⟩⟩
    have fin : ∀ b, b ∈ [e, it] → b < s.heap.objs.size := fun b hb => by
      rcases two b hb with z | z
      · rw [z]; exact hel
      · rw [z]; exact hil
    have I1 : Inv X pins σ (upd H s.heap.objs.size (.tup [.int (i : Nat), x])) { s with heap := h2, toks := tk + 1 } :=
      I.turnedNew (ch := [e, it]) (fun b ob hb q => (sb.2 b (fun z => hb (by simp [z]))).trans (hk b ob (fun z => hb (by simp [z])) (fun z => hb (by simp [z])) q)) hf (Nat.le_refl _) new
    refine ⟨.ref s.heap.objs.size, _, I1, rfl, ⟨_, x, rfl, I.hok.fresh (Nat.le_refl _), rfl, fun ys hy => by rw [I.tuple_inj hy hq]; exact hx⟩, ⟨⟨y, ?_⟩, hst.1.at fun o q => (sb.2 it (Ne.symm hne)).trans q, hne⟩, fun b hb => ?_⟩
    · have e1 : ((i + 1 : Nat) : Int) = (i : Int) + 1 := by omega
      rw [e1]
      exact he2
    · rw [upd_ne (Nat.ne_of_lt (fin b hb))]
      exact (hf b hb).1
  case done =>
    intro X hP hw hK hc i pins s σ H E I hf st hg
    subst hP hw hK
    obtain ⟨⟨old, he⟩, hit, hne⟩ := st
    obtain ⟨xs, hq, hx⟩ := hg
    obtain ⟨its, rv, p, hz⟩ := I.tuple hq
    obtain ⟨f0, f1, f2, f3, f4, f5⟩ := hf it (by simp)
    have hh : X.A.in1.handled = none := by
      have := I.ok.hd hc
      first | exact this | simpa using this
    have D := Draws.tuple (prog := X.prog) (w := X.w) (A := X.A.in1) hh it a hai its.toArray
    have en : i = its.toArray.size := by rw [List.size_toArray, ← rv.length]; exact hx
    refine wpAny_pyNext_enum_endD D he ⟨by rw [← en]; exact hit, show s.heap.IsTuple a its.toArray from p⟩ fun h' eb => ⟨rfl, I.turned (t' := s.toks) (fun b o hb q => eb b o hb q) f0 f1 f3 f4 f5⟩
end G
namespace G
open PySem PySem.Spec L2
open Evl (Ex)
section
variable {X : Cx} {W : WX} {pos p tpos : Pos} {e : Expr} {ce : E} {elts : List Expr} {kk : Nat}
def iEnumA (K : PySem.W.Frag) (ta : TA) : TI := fun σ H R => ta σ H fun vs H1 => ∃ a, vs = [.ref a] ∧ (((∃ xs, SqL K H1 a xs) ∧ R (Ite K a) H1) ∨ ((∃ xs, SqT K H1 a xs) ∧ R (IteT K a) H1))
theorem pi_enumA {ta : TA} (hg : Gl X "enumerate") (hm : X.mg "enumerate" = none) (ha : PA X [e] ta) (hs : starEach [e] X.env = [(false, eval e X.env)] := by rfl) : PI X (.Tuple elts kk tpos) (.Call (.Name "enumerate" p) [e] [] pos) (iEnumA X.K ta) := by
  refine ⟨fun pins s σ H R I h => ?_⟩
  refine PyProof.Rows.Call_ (ld_blt I hg hm PyProof.Rows.boot_enumerate (PyProof.Rows.callWith_type1 (thn (ha.run pos pins s σ H _ I h) fun us s1 ⟨vs, H1, I1, r1, q1⟩ => ?_) hs rfl))
  obtain ⟨a, ex, q⟩ := q1
  subst ex
  have fresh : ∀ b, b ∈ [s1.heap.objs.size + 1, s1.heap.objs.size] → FpOk X pins H1 b := fun b hb => by
    have hle : s1.heap.objs.size ≤ b := by
      rcases (show b = s1.heap.objs.size + 1 ∨ b = s1.heap.objs.size by simpa using hb) with z | z <;> omega
    exact I1.fpOk hle (I1.hok.fresh hle)
  cases r1 with
  | cons r rr =>
    cases rr
    cases r
    rcases q with ⟨⟨xs, hq⟩, q⟩ | ⟨⟨xs, hq⟩, q⟩
    · obtain ⟨its, rv, pl, hz⟩ := I1.list hq
      refine call_enumerate_list pl.isList fun h' he hit hsz hk => wpAny_pyIter_enum he ?_
      exact ⟨s1.heap.objs.size + 1, [s1.heap.objs.size + 1, s1.heap.objs.size], _, _, H1, rfl, I1.kept (t' := s1.toks) hk, turn_enum a _ _, ⟨⟨.none, he⟩, hit, Nat.succ_ne_self _⟩, fresh, q⟩
    · obtain ⟨its, rv, pl, hz⟩ := I1.tuple hq
      have hT : s1.heap.IsTuple a its.toArray := pl
      have hlt : a < s1.heap.objs.size := by
        obtain ⟨o, ho, _⟩ := hT
        exact Heap.lt_size ho
      refine call_enumT hT fun h' he hit hk => wpAny_pyIter_enum he ?_
      exact ⟨s1.heap.objs.size + 1, [s1.heap.objs.size + 1, s1.heap.objs.size], _, _, H1, rfl, I1.kept (t' := s1.toks) hk, turn_enumT a _ _ (Nat.ne_of_lt hlt) (Nat.ne_of_lt (Nat.lt_succ_of_lt hlt)), ⟨⟨.none, he⟩, hit, Nat.succ_ne_self _⟩, fresh, q⟩
theorem enumD_get : ∀ {xs : List D} {n : Int} {i : Nat} {d : D}, (enumD n xs)[i]? = some d → ∃ x, xs[i]? = some x ∧ d = .tup [.int (n + i), x]
  | [], _, _, _, h => by simp [enumD] at h
  | x :: xs, n, 0, d, h => by
    simp [enumD] at h
    exact ⟨x, rfl, by rw [← h]; simp⟩
  | x :: xs, n, i + 1, d, h => by
    obtain ⟨y, h1, h2⟩ := enumD_get (xs := xs) (n := n + 1) (i := i) (d := d) (by simpa [enumD] using h)
    refine ⟨y, by simpa using h1, ?_⟩
    rw [h2, show n + 1 + (i : Int) = n + ((i + 1 : Nat) : Int) by omega]
theorem enumD_length : ∀ (xs : List D) (n : Int), (enumD n xs).length = xs.length
  | [], _ => rfl
  | x :: xs, n => by simp [enumD, enumD_length xs]
theorem pair_new {K : PySem.W.Frag} {wd : Wd} {F H : Hp} {cs : Cs} (R : Rl K wd F cs H) {T : Addr} (hT : H T = none) {i : Nat} {x : D} {v : V} (r : Rp K wd x v) : ∃ wd', wd.le wd' ∧ Rl K wd' F cs (upd H T (.tup [.int (i : Nat), v])) ∧ Rp K wd' (.tup [.int (0 + (i : Nat)), x]) (.ref T) := by
  obtain ⟨wd', l, R', q⟩ := R.tup hT (ds := [.int (0 + (i : Nat)), x]) (vs := [.int (i : Nat), v]) ⟨_, _, rfl, by rw [Int.zero_add]; exact rfl, _, _, rfl, r, rfl⟩
  exact ⟨wd', l, R', q⟩
theorem itOk_enumL {wd : Wd} {F : Hp} {xs : List D} {grd : Cs → Prop} {a : Addr} (h : ∀ wd' F' cs' H', wd.le wd' → Rl X.K wd' F' cs' H' → grd cs' → ∃ vs, H' a = some (.lst vs) ∧ RpL X.K wd' xs vs) : ItOk X wd F (enumD 0 xs) grd (Ite X.K a) := by
  refine ⟨fun wd' F' cs H i d l R g hd => ?_, fun wd' F' cs H l R g => ?_⟩
  · obtain ⟨x, hx, e⟩ := enumD_get hd
    subst e
    obtain ⟨vs, hv, r⟩ := h wd' F' cs H l R g
    obtain ⟨v, h1, h2⟩ := r.get hx
    refine ⟨⟨vs, v, SqL.of hv, h1⟩, fun y H' ⟨T, z, ey, hT, eH, hz⟩ => ?_⟩
    subst ey eH
    have q := hz vs (SqL.of hv)
    rw [h1] at q
    cases q
    exact pair_new R hT h2
  · obtain ⟨vs, hv, r⟩ := h wd' F' cs H l R g
    exact ⟨vs, SqL.of hv, by rw [r.length, enumD_length]; exact Nat.le_refl _⟩
theorem itOk_enumT {wd : Wd} {F : Hp} {xs : List D} {grd : Cs → Prop} {a : Addr} (h : ∀ wd' F' cs' H', wd.le wd' → Rl X.K wd' F' cs' H' → ∃ vs, SqT X.K H' a vs ∧ RpL X.K wd' xs vs) : ItOk X wd F (enumD 0 xs) grd (IteT X.K a) := by
  refine ⟨fun wd' F' cs H i d l R g hd => ?_, fun wd' F' cs H l R g => ?_⟩
  · obtain ⟨x, hx, e⟩ := enumD_get hd
    subst e
    obtain ⟨vs, hv, r⟩ := h wd' F' cs H l R
    obtain ⟨v, h1, h2⟩ := r.get hx
    refine ⟨⟨vs, v, hv, h1⟩, fun y H' ⟨T, z, ey, hT, eH, hz⟩ => ?_⟩
    subst ey eH
    have q := hz vs hv
    rw [h1] at q
    cases q
    exact pair_new R hT h2
  · obtain ⟨vs, hv, r⟩ := h wd' F' cs H l R
    exact ⟨vs, hv, by rw [r.length, enumD_length]⟩
theorem ji_enum (hg : Gl X "enumerate") (hm : X.mg "enumerate" = none) (h : JE X W e ce) (hs : starEach [e] X.env = [(false, eval e X.env)] := by rfl) (h1 : starEach [e] X.env = (false, eval e X.env) :: starEach [] X.env := by rfl) : JI X W (.Tuple elts kk tpos) (.Call (.Name "enumerate" p) [e] [] pos) iEnum (.cons ce .nil) := by
  obtain ⟨ta, p1, r1⟩ := ja_cons h ja_nil h1
  refine ⟨_, pi_enumA hg hm p1 hs, fun wd F τ cs σ H R' PX Q R rs h q x => ?_⟩
  refine r1 wd F τ cs σ H _ PX _ R rs h (fun wd1 ds c1 vs H1 l1 R1 rv h1 => ?_) x
  obtain ⟨d, ed, h2⟩ : ∃ d, ds = [d] ∧ (match getQ d c1 with
      | some xs => R' (enumD 0 xs) (grdL d c1) c1
      | none => False) := by
    unfold iEnum at h1
    split at h1
    · exact ⟨_, rfl, h1⟩
    · exact h1.elim
  subst ed
  obtain ⟨v, ev, rd⟩ := rv.one
  subst ev
  cases eq : getQ d c1 with
  | none =>
    rw [eq] at h2
    exact h2.elim
  | some xs =>
    rw [eq] at h2
    rcases getQ_cases eq with ed | el
    · subst ed
      obtain ⟨a, ev, st⟩ := R1.staysT rd
      subst ev
      obtain ⟨vs, hv, _⟩ := st wd1 F c1 H1 (Wd.le.refl _) R1
      exact ⟨a, rfl, .inr ⟨⟨vs, hv⟩, q wd1 _ _ c1 _ H1 l1 R1 (itOk_enumT st) h2⟩⟩
    · obtain ⟨a, ev, st⟩ := R1.staysL rd el
      subst ev
      obtain ⟨vs, hv, _⟩ := st wd1 F c1 H1 (Wd.le.refl _) R1 (by unfold grdL; split <;> trivial)
      exact ⟨a, rfl, .inl ⟨⟨vs, SqL.of hv⟩, q wd1 _ _ c1 _ H1 l1 R1 (itOk_enumL st) h2⟩⟩
end
end G

/-! GSet: set(list of ints), sorted. -/
namespace G
open PySem PySem.Spec L2
section
variable {P : Program} {w : World} {A : Around} {E : Value → Shared → Prop} {s : Shared}
end
end G

/-! GSort: sorted(set(..)), sorted(..), [..] * n; what is not reached. -/
namespace G
open PySem PySem.Spec L2
open Evl (Ex)
/-- a statement that is not reached -/
def stuck : S := .asg .nil (.c .non)
@[simp] theorem stuck_wp {σ : Sl} {cs : Cs} {K : Ends} : wpS stuck σ cs K = False := rfl
theorem nodup_len : ∀ (n : Nat) (l : List Int), l.Nodup → (∀ k ∈ l, 0 ≤ k ∧ k < (n : Int)) → l.length ≤ n
  | 0, l, _, h => by
    cases l with
    | nil => exact Nat.le_refl _
    | cons x r =>
      have := h x List.mem_cons_self
      omega
  | n + 1, l, hn, h => by
    have h2 := nodup_len n (l.erase (n : Int)) (hn.erase _) fun k hk => by
      have h3 := hn.mem_erase_iff.mp hk
      have h4 := h k h3.2
      have h5 := h3.1
      omega
    have h6 := List.length_erase (a := (n : Int)) (l := l)
    split at h6 <;> omega
section
variable {X : Cx} {W : WX} {pos p p' q : Pos} {a b e : Expr} {ca cb ce : E} {K : PySem.W.Frag}
theorem rep_rp {wd : Wd} {ds : List D} {vs : List V} (r : RpL K wd ds vs) : ∀ n : Nat, RpL K wd (List.replicate n ds).flatten (List.replicate n vs).flatten
  | 0 => rfl
  | n + 1 => by
    rw [List.replicate_succ, List.replicate_succ, List.flatten_cons, List.flatten_cons]
    exact r.append (rep_rp r n)
theorem ref_rep : Ref2 X.K rRep sRep := by
  intro wd F cs H x y v w P PX Q R rx ry h q
  unfold sRep at h
  split at h
  · rename_i x' k ee
    cases ee
    have ew : w = .int k := ry
    subst ew
    cases ex : G.getL x cs with
    | none =>
      rw [ex] at h
      exact h.elim
    | some xs =>
      rw [ex] at h
      obtain ⟨h1, h2, h3, h4⟩ := h
      obtain ⟨a, ws, ev, hs, r⟩ := R.getL rx ex
      refine ⟨a, k, ws, ev, rfl, hs, h1, h2, by rw [r.length, sizeL]; exact h3, fun p hp => ?_⟩
      obtain ⟨wd3, l3, R3, r3⟩ := R.lst hp (rep_rp r k.toNat)
      exact q wd3 _ cs _ _ l3 R3 r3 h4
  · exact h.elim
theorem j_rep (ha : JE X W a ca) (hb : JE X W b cb) : JE X W (.BinOp a .Mult b pos) (.app sRep (.cons ca (.cons cb .nil))) := j_op op_rep ref_rep ha hb
theorem js_stuck {st : Stmt} : JS X W st stuck := ⟨fun _ _ _ => False, ⟨fun pins s σ D H I h => h.elim⟩, fun wd F τ cs σ H P Q R rs h q => (show False from h).elim⟩
end
end G

/-! GStar: a, *b, c = a list. -/
namespace G
open PySem PySem.Spec L2
open Evl (Ex)
section
variable {P : Program} {w : World} {A : Around} {E : Value → Shared → Prop} {s : Shared}
end
/-- a list as a tuple with the middle as a list: the stars' places -/
def starD (n i : Nat) (xs : List D) : List D := xs.take i ++ [.lst ((xs.drop i).take (xs.length + 1 - n))] ++ (xs.drop i).drop (xs.length + 1 - n)
def sStar (n i : Nat) : Spec := fun ds cs Q _ => match ds with
  | [x] => match getL x cs with
    | some xs => i < n ∧ n ≤ xs.length + 1 ∧ Q (.tup (starD n i xs)) cs
    | none => False
  | _ => False
section
variable {X : Cx} {W : WX} {pos p p' : Pos} {e tg : Expr} {ce : E} {tgs elts : List Expr} {pt : Pat} {own : List Nat} {n i k : Nat}
end
end G

namespace G
def c_path_of_1 (p_need_node : G.Spec) : S := (.exp (.app p_need_node (.cons (.v 0) (.cons (.v 1) .nil))))
def c_path_of_2 (p_need_node : G.Spec) : S := (.asg (.nm 2) (.app sListM (.cons (.v 1) .nil)))
def c_path_of_3 (p_need_node : G.Spec) : S := (.exp (.meth chkL sAppend (.v 2) (.cons (.app sIx (.cons (.v 0) (.cons (.app sIx (.cons (.v 2) (.cons (.app sNeg (.cons (.c (.int 1)) .nil)) .nil))) .nil))) .nil)))
def c_path_of_4 (p_need_node : G.Spec) : S := (.whl (.app sNe (.cons (.app sIx (.cons (.v 0) (.cons (.app sIx (.cons (.v 2) (.cons (.app sNeg (.cons (.c (.int 1)) .nil)) .nil))) .nil))) (.cons (.app sIx (.cons (.v 2) (.cons (.app sNeg (.cons (.c (.int 1)) .nil)) .nil))) .nil))) (c_path_of_3 p_need_node))
def c_path_of_5 (p_need_node : G.Spec) : S := (.ret (.v 2))
def c_path_of (p_need_node : G.Spec) : S := (.seq (c_path_of_1 p_need_node) (.seq (c_path_of_2 p_need_node) (.seq (c_path_of_4 p_need_node) (.seq (.frz 2) (c_path_of_5 p_need_node)))))
def c_compressed_1 : S := (.ret (.app sTupOf (.cons (.comp false [3, 4] (.tup (.cons (.nm 3) (.cons (.nm 4) .nil))) iEnum (.cons (.v 0) .nil) (.c (.bl true)) (.ite (.app sIn (.cons (.v 3) (.cons (.v 1) .nil))) (.v 2) (.v 4))) .nil)))
def c_compressed : S := (c_compressed_1)
def c_find_1 (p_compressed : G.Spec) (p_path_of : G.Spec) : S := (.asg (.nm 2) (.app p_path_of (.cons (.v 0) (.cons (.v 1) .nil))))
def c_find_2 (p_compressed : G.Spec) (p_path_of : G.Spec) : S := (.ret (.app sTup (.cons (.app p_compressed (.cons (.v 0) (.cons (.v 2) (.cons (.app sIx (.cons (.v 2) (.cons (.app sNeg (.cons (.c (.int 1)) .nil)) .nil))) .nil)))) (.cons (.app sSub (.cons (.app sLen (.cons (.v 2) .nil)) (.cons (.c (.int 1)) .nil))) .nil))))
def c_find (p_compressed : G.Spec) (p_path_of : G.Spec) : S := (.seq (c_find_1 p_compressed p_path_of) (c_find_2 p_compressed p_path_of))
end G

/-! GFor: forests as lists of parents; paths; finds. Plain mathematics. -/
namespace G
def par (p : List Nat) (i : Nat) : Nat := p.getD i i
/-- following parents comes to an end -/
def FoOk (p : List Nat) : Prop := ∃ r : Nat → Nat, ∀ i, i < p.length → par p i < p.length ∧ r i < p.length ∧ (par p i = i ∨ r (par p i) < r i)
def pth (p : List Nat) : Nat → Nat → List Nat
  | 0, i => [i]
  | f + 1, i => if par p i = i then [i] else i :: pth p f (par p i)
def path (p : List Nat) (i : Nat) : List Nat := pth p p.length i
def root (p : List Nat) (i : Nat) : Nat := (path p i).getLastD i
section
variable {p : List Nat}
theorem pth_fuel {r : Nat → Nat} (h : ∀ i, i < p.length → par p i < p.length ∧ r i < p.length ∧ (par p i = i ∨ r (par p i) < r i)) : ∀ (f g i : Nat), i < p.length → r i ≤ f → r i ≤ g → pth p f i = pth p g i := by
  intro f
  induction f with
  | zero =>
    intro g i hi hf _
    have e : par p i = i := by
      rcases (h i hi).2.2 with e | e
      · exact e
      · omega
    cases g with
    | zero => rfl
    | succ g => simp [pth, e]
  | succ f ih =>
    intro g i hi hf hg
    by_cases e : par p i = i
    · cases g with
      | zero => simp [pth, e]
      | succ g => simp [pth, e]
    · have h2 := ((h i hi).2.2).resolve_left e
      cases g with
      | zero => omega
      | succ g =>
        simp only [pth, if_neg e]
        rw [ih g (par p i) (h i hi).1 (by omega) (by omega)]
theorem path_eq (h : FoOk p) {i : Nat} (hi : i < p.length) : path p i = if par p i = i then [i] else i :: path p (par p i) := by
  obtain ⟨r, hr⟩ := h
  unfold path
  cases e : p.length with
  | zero => omega
  | succ n =>
    rw [show pth p (n + 1) i = if par p i = i then [i] else i :: pth p n (par p i) from rfl]
    by_cases e2 : par p i = i
    · rw [if_pos e2, if_pos e2]
    · rw [if_neg e2, if_neg e2]
      have h2 := ((hr i hi).2.2).resolve_left e2
      have h3 := (hr i hi).2.1
      rw [pth_fuel hr n (n + 1) (par p i) (hr i hi).1 (by omega) (by omega)]
theorem path_root {i : Nat} (h : FoOk p) (hi : i < p.length) (e : par p i = i) : path p i = [i] := by rw [path_eq h hi, if_pos e]
theorem path_step {i : Nat} (h : FoOk p) (hi : i < p.length) (e : par p i ≠ i) : path p i = i :: path p (par p i) := by rw [path_eq h hi, if_neg e]
theorem par_lt (h : FoOk p) {i : Nat} (hi : i < p.length) : par p i < p.length := by
  obtain ⟨r, hr⟩ := h
  exact (hr i hi).1
/-- induction up the path -/
theorem up_ind (h : FoOk p) {M : Nat → Prop} (hb : ∀ i, i < p.length → par p i = i → M i) (hs : ∀ i, i < p.length → par p i ≠ i → M (par p i) → M i) : ∀ i, i < p.length → M i := by
  obtain ⟨r, hr⟩ := h
  have : ∀ n i, i < p.length → r i ≤ n → M i := by
    intro n
    induction n with
    | zero =>
      intro i hi hn
      rcases (hr i hi).2.2 with e | e
      · exact hb i hi e
      · omega
    | succ n ih =>
      intro i hi hn
      by_cases e : par p i = i
      · exact hb i hi e
      · have := ((hr i hi).2.2).resolve_left e
        exact hs i hi e (ih (par p i) (hr i hi).1 (by omega))
  exact fun i hi => this (r i) i hi (Nat.le_refl _)
theorem path_ne (i : Nat) : path p i ≠ [] := by
  unfold path
  cases p.length with
  | zero => simp [pth]
  | succ n =>
    simp only [pth]
    split <;> simp
theorem root_root (h : FoOk p) {i : Nat} (hi : i < p.length) (e : par p i = i) : root p i = i := by
  unfold root
  rw [path_root h hi e]
  rfl
theorem root_step (h : FoOk p) {i : Nat} (hi : i < p.length) (e : par p i ≠ i) : root p i = root p (par p i) := by
  unfold root
  rw [path_step h hi e]
  have ne := path_ne (p := p) (par p i)
  cases hp : path p (par p i) with
  | nil => exact absurd hp ne
  | cons x l => simp [List.getLast?_cons]
theorem root_lt (h : FoOk p) : ∀ i, i < p.length → root p i < p.length ∧ par p (root p i) = root p i :=
  up_ind h (fun i hi e => by rw [root_root h hi e]; exact ⟨hi, e⟩) fun i hi e ih => by rw [root_step h hi e]; exact ih
theorem mem_self (h : FoOk p) {i : Nat} (hi : i < p.length) : i ∈ path p i := by
  rw [path_eq h hi]
  split <;> simp
end
/-! ### a find -/
def cmp (p xs : List Nat) (t : Nat) : List Nat := (List.range p.length).map fun i => if i ∈ xs then t else par p i
def fnd (p : List Nat) (i : Nat) : List Nat := cmp p (path p i) (root p i)
def cst (p : List Nat) (i : Nat) : Nat := (path p i).length - 1
theorem ext_par {p q : List Nat} (hl : p.length = q.length) (h : ∀ i, i < p.length → par p i = par q i) : p = q := by
  refine List.ext_getElem hl fun i h1 h2 => ?_
  have := h i h1
  unfold par at this
  rw [List.getD_eq_getElem?_getD, List.getD_eq_getElem?_getD, List.getElem?_eq_getElem h1, List.getElem?_eq_getElem h2] at this
  exact this
/-- M is closed upwards and has no root -/
structure MOk (p : List Nat) (M : Nat → Bool) : Prop where
  nr : ∀ i, i < p.length → M i = true → par p i ≠ i
  up : ∀ i, i < p.length → M i = true → M (par p i) = true ∨ par p (par p i) = par p i
section
variable {p : List Nat} {M : Nat → Bool}
/-- one more find -/
def more (p : List Nat) (M : Nat → Bool) (i : Nat) : Nat → Bool := fun j => M j || (decide (j ∈ path p i) && decide (j ≠ root p i))
/-! ### costs -/
def deep (p : List Nat) (j : Nat) : Bool := decide (par p j ≠ j) && decide (par p (par p j) ≠ par p j)
def nroot (p : List Nat) (i : Nat) : Nat := if par p i = i then 0 else 1
theorem countP_or {α : Type} (f g : α → Bool) (l : List α) : l.countP (fun x => f x || g x) = l.countP f + l.countP (fun x => !f x && g x) := by
  induction l with
  | nil => rfl
  | cons x l ih =>
    simp only [List.countP_cons, ih]
    cases f x <;> cases g x <;> simp <;> omega
theorem countP_sub {n : Nat} {f : Nat → Bool} : ∀ {l : List Nat}, l.Nodup → (∀ j ∈ l, j < n) → (List.range n).countP (fun j => decide (j ∈ l) && f j) = l.countP f
  | [], _, _ => by simp
  | x :: l, hn, hl => by
    have hn := List.nodup_cons.mp hn
    have ih := countP_sub (f := f) hn.2 fun j hj => hl j (List.mem_cons_of_mem _ hj)
    have e : ∀ j, (decide (j ∈ x :: l) && f j) = ((decide (j = x) && f j) || (decide (j ∈ l) && f j)) := fun j => by
      by_cases a : j = x <;> by_cases b : j ∈ l <;> simp [a, b]
    have hx : x < n := hl x List.mem_cons_self
    have one : ∀ m, x < m → (List.range m).countP (fun j => decide (j = x) && f j) = if f x then 1 else 0 := by
      intro m
      induction m with
      | zero => intro h; omega
      | succ m im =>
        intro h
        rw [List.range_succ, List.countP_append]
        by_cases e : x = m
        · have z : (List.range m).countP (fun j => decide (j = x) && f j) = 0 := by
            rw [List.countP_eq_zero]
            intro j hj
            have := List.mem_range.mp hj
            simp
            omega
          rw [z, ← e]
          cases hfx : f x <;> simp [hfx]
        · rw [im (by omega)]
          have : ¬ (m = x) := fun z => e z.symm
          simp [this]
    have e2 : (List.range n).countP (fun j => decide (j ∈ x :: l) && f j) = (List.range n).countP (fun j => (decide (j = x) && f j) || (decide (j ∈ l) && f j)) := by
      congr 1
      funext j
      exact e j
    rw [e2, countP_or, one n hx, List.countP_cons]
    have e3 : (List.range n).countP (fun j => !(decide (j = x) && f j) && (decide (j ∈ l) && f j)) = (List.range n).countP (fun j => decide (j ∈ l) && f j) := by
      congr 1
      funext j
      by_cases a : j = x
      · rw [a]
        have : x ∉ l := hn.1
        simp [this]
      · simp [a]
    rw [e3, ih]
    omega
end
/-! ### many finds -/
end G

/-! GLess: cells left over may be forgotten. -/
namespace G
open PySem PySem.Spec L2
def Le (c c' : Cs) : Prop := ∀ n o, c n = some o → c' n = some o
theorem Le.refl (c : Cs) : Le c c := fun _ _ h => h
theorem Le.trans {a b c : Cs} (h : Le a b) (k : Le b c) : Le a c := fun n o e => k n o (h n o e)
theorem Le.put {c c' : Cs} {n : Nat} {o : Ob} (h : Le c c') (hn : c n = none) : Le c (put c' n o) := fun m u e => by
  have : m ≠ n := fun z => by rw [z, hn] at e; cases e
  rw [put_ne this]
  exact h m u e
theorem Le.none {c c' : Cs} {n : Nat} (h : Le c c') (hn : c' n = none) : c n = none := by
  cases e : c n with
  | none => rfl
  | some o => rw [h n o e] at hn; cases hn
def okFnL (n : Nat) (body : S) (sp : Spec) : Prop := ∀ ds cs Q X, sp ds cs Q X → wpS body (start n ds) cs { nx := fun _ c' => ∃ c, Le c c' ∧ Q .non c, rt := fun d c' => ∃ c, Le c c' ∧ Q d c, ex := fun x _ c' => ∃ c, Le c c' ∧ X x c }
section
variable {P : Program} {w : World} {K : PySem.W.Frag} {mg : Str → Option Value} {base : Heap}
theorem fnOk_ofL {x qual : Str} {params : Arguments} {body : List Stmt} {scope : Scope} {dvs : List V} {kws : List (Str × V)} {f : Addr} {fd : FuncData} {N ps : List Str} {k : Nat} {sp : Spec} {core : S} (FD : FunD K x qual params body scope dvs kws f fd) (S : FnScope N ps scope)
    (len : ∀ ds cs Q PX, sp ds cs Q PX → ds.length = ps.length)
    (hb : ∀ (cdv : Value) (A : Around) (outer : List Env) (s : Shared) (H : Hp) (E : XK), Ct (cxOf (L2N.CX P w) P w K mg base N qual scope f cdv A outer s H E) (wxOf E) k → JSs (cxOf (L2N.CX P w) P w K mg base N qual scope f cdv A outer s H E) (wxOf E) body core)
    (ok : okFnL N.length core sp) : FnOk P w K mg base (L2N.CX P w) (k + 1) f fd ps (lift K mg sp) := by
  refine FD.ok S (fun vs H Q E h => ?_) fun cdv A outer s H vs Q E hr h => ?_
  · obtain ⟨wd, F, cs, ds, PD, PX, R, r, s, q⟩ := h
    rw [r.length]
    exact len _ _ _ _ s
  · obtain ⟨wd, F, cs, ds, PD, PX, R, r, hs, q, x⟩ := h
    obtain ⟨t, p1, r1⟩ := hb cdv A outer s H E ⟨rfl, S.nd, passes_of rfl, L2N.takes_of rfl rfl rfl rfl, hr⟩
    refine ⟨t, p1, ?_⟩
    exact r1 wd F _ cs _ H _ _ R (rs_start r) (ok ds cs PD PX hs) ⟨fun wd' τ cs' σ H' l R' rs' ⟨c, le, h'⟩ => q wd' .non c .non H' l (R'.less le) rfl h', fun _ _ _ _ _ _ _ _ z => z.elim, fun _ _ _ _ _ _ _ _ z => z.elim, fun wd' d cs' v H' l R' rv ⟨c, le, h'⟩ => q wd' d c v H' l (R'.less le) rv h', fun wd' y τ cs' σ cls dd H' l R' rs' rx ⟨c, le, z⟩ => x wd' y c cls dd H' l (R'.less le) rx z⟩
end
theorem okFn.less {n : Nat} {body : S} {sp : Spec} (h : okFn n body sp) (mono : ∀ ds cs Q X Q' X', sp ds cs Q X → (∀ d c, Q d c → Q' d c) → (∀ x c, X x c → X' x c) → sp ds cs Q' X') : okFnL n body sp :=
  fun ds cs Q X hs => h ds cs (fun d c' => ∃ c, Le c c' ∧ Q d c) (fun x c' => ∃ c, Le c c' ∧ X x c) (mono ds cs Q X _ _ hs (fun d c z => ⟨c, Le.refl c, z⟩) fun x c z => ⟨c, Le.refl c, z⟩)
end G

/-! GFoD: what the program's finds and the laws' helpers over forests promise. -/
namespace G
open PySem (Str)
@[simp] theorem sAppend_e {n : Nat} {y : D} {cs : Cs} {Q : KD} {X : KX} : sAppend [.ref n, y] cs Q X = match cs n with
    | some (.lst xs) => xs.length < lim ∧ Q .non (put cs n (.lst (xs ++ [y])))
    | _ => False := rfl
@[simp] theorem sInsert_e {n : Nat} {i : Int} {y : D} {cs : Cs} {Q : KD} {X : KX} : sInsert [.ref n, .int i, y] cs Q X = match cs n with
    | some (.lst xs) => xs.length < lim ∧ 0 ≤ i ∧ i < 2 ^ 63 ∧ Q .non (put cs n (.lst (xs.take i.toNat ++ [y] ++ xs.drop i.toNat)))
    | _ => False := rfl
@[simp] theorem chkL_ref {n : Nat} {cs : Cs} : chkL (.ref n) cs = match cs n with
    | some (.lst xs) => True
    | _ => False := by
  unfold chkL
  simp only [getL_ref]
  cases cs n with
  | none => rfl
  | some o => cases o <;> rfl
@[simp] theorem sTupOf_e {x : D} {cs : Cs} {Q : KD} {X : KX} : sTupOf [x] cs Q X = match getQ x cs with
    | some xs => Q (.tup xs) cs
    | none => False := rfl
@[simp] theorem beqN {a b : Nat} : ((a : Int) == (b : Int)) = decide (a = b) := by
  rw [Bool.eq_iff_iff]
  simp
  omega
/-- nodes as values -/
def nI (xs : List Nat) : List D := xs.map fun n => D.int (n : Nat)
def fD (p : List Nat) : D := .tup (nI p)
def lD (xs : List Nat) : D := .lst (nI xs)
@[simp] theorem nI_len {xs : List Nat} : (nI xs).length = xs.length := by simp [nI]
@[simp] theorem nI_flat {xs : List Nat} : (nI xs).all flat = true := by
  rw [List.all_eq_true]
  intro d hd
  obtain ⟨n, _, e⟩ := List.mem_map.mp hd
  rw [← e]
  rfl
/-! ### need_node, path_of -/
theorem fD_str {p : List Nat} : ∀ s, fD p ≠ .str s := fun s e => by cases e
theorem compL_map {p : Pat} {grd : Cs → Prop} {σ : Sl} {tst elt : Sl → Cs → KD → Prop} {Q : List D → Cs → Prop} {cs : Cs} (f : D → D) (hg : grd cs) (items acc : List D)
    (h : ∀ x ∈ items, ∃ σ1, bindP p [x] σ = some σ1 ∧ (∀ K : KD, K (.bl true) cs → tst σ1 cs K) ∧ (∀ K : KD, K (f x) cs → elt σ1 cs K)) (hl : acc.length + items.length ≤ lim) (hQ : Q (acc ++ items.map f) cs) : compL p grd σ tst elt Q items acc cs := by
  refine compL_pure (fun _ => true) f hg items acc (fun x hx => ?_) hl ?_
  · obtain ⟨σ1, a, b, c⟩ := h x hx
    exact ⟨σ1, a, b, fun _ => c⟩
  · rw [show items.filter (fun _ => true) = items from List.filter_eq_self.mpr (by simp)]
    exact hQ
/-- a comprehension whose items are not determined -/
theorem compL_all {p : Pat} {grd : Cs → Prop} {σ : Sl} {tst elt : Sl → Cs → KD → Prop} {Q : List D → Cs → Prop} {cs : Cs} (A : D → Prop) (hg : grd cs) : ∀ (items acc : List D),
    (∀ x ∈ items, ∃ σ1, bindP p [x] σ = some σ1 ∧ (∀ K : KD, K (.bl true) cs → tst σ1 cs K) ∧ (∀ K : KD, (∀ y, A y → K y cs) → elt σ1 cs K)) → acc.length + items.length ≤ lim →
    (∀ ys, ys.length = items.length → (∀ y ∈ ys, A y) → Q (acc ++ ys) cs) → compL p grd σ tst elt Q items acc cs
  | [], acc, _, _, hQ => ⟨hg, by simpa using hQ [] rfl (by simp)⟩
  | x :: xs, acc, h, hl, hQ => by
    obtain ⟨σ1, hb, ht, he⟩ := h x List.mem_cons_self
    refine ⟨hg, ?_⟩
    rw [hb]
    have hl2 : acc.length + (xs.length + 1) ≤ lim := by simpa using hl
    refine ht _ (.inl ⟨rfl, he _ fun y hy => ⟨by omega, compL_all A hg xs _ (fun z hz => h z (List.mem_cons_of_mem _ hz)) (by simp; omega) fun ys h1 h2 => ?_⟩⟩)
    have := hQ (y :: ys) (by simp [h1]) fun z hz => by
      rcases List.mem_cons.mp hz with e | e
      · rw [e]
        exact hy
      · exact h2 z e
    simpa using this
/-! ### compressed, find, find_all -/
def isSeq (x : D) (xs : List D) : Prop := x = .lst xs ∨ x = .tup xs
theorem isSeq.q {x : D} {xs : List D} {cs : Cs} (h : isSeq x xs) : getQ x cs = some xs := by
  rcases h with e | e <;> (rw [e]; rfl)
theorem isSeq.str {x : D} {xs : List D} (h : isSeq x xs) : ∀ s, x ≠ .str s := by
  rcases h with e | e <;> (rw [e]; intro s z; cases z)
theorem isSeq.g {x : D} {xs : List D} {cs c : Cs} (h : isSeq x xs) : grdL x cs c := by
  rcases h with e | e <;> (rw [e]; trivial)
theorem iSeq_e {x : D} {xs : List D} {cs : Cs} {R : List D → (Cs → Prop) → Prop} (h : isSeq x xs) (k : R xs (grdL x cs)) : iSeq [x] cs R := by
  show (match getQ x cs with
    | some xs => R xs (grdL x cs)
    | none => False)
  rw [h.q]
  exact k
end G

/-! GFoE: the laws' forests, nodes, paths. -/
namespace G
open PySem (Str)
/-! ### draws -/
@[simp] theorem sRepM_e {x : D} {k : Int} {cs : Cs} {Q : KD} {X : KX} : sRepM [x, .int k] cs Q X = match getL x cs with
    | some xs => -(2 ^ 63) ≤ k ∧ k < 2 ^ 63 ∧ xs.length * k.toNat ≤ lim ∧ ∀ n, cs n = none → Q (.ref n) (put cs n (.lst (List.replicate k.toNat xs).flatten))
    | none => False := rfl
@[simp] theorem sListRg_e {a b : Int} {cs : Cs} {Q : KD} {X : KX} : sListRg [.int a, .int b] cs Q X = (-(2 ^ 62) ≤ a ∧ a < 2 ^ 62 ∧ -(2 ^ 62) ≤ b ∧ b < 2 ^ 62 ∧ (b - a).toNat ≤ lim ∧ Q (.lst (rgD a b)) cs) := rfl
/-! ### forests -/
end G

/-! GFoF: more rewriting rules for lists of nodes. -/
namespace G
open PySem (Str)
@[simp] theorem sRev_l {xs : List D} {cs : Cs} {Q : KD} {X : KX} : sRev [.lst xs] cs Q X = Q (.lst xs.reverse) cs := rfl
end G

/-! GWay: marked nodes, ways from a forest to another. -/
namespace G
open PySem (Str)
/-! ### promises -/
def sub (p : List Nat) (i : Nat) : List Nat := (List.range p.length).filter fun j => decide (i ∈ path p j)
/-! ### ways -/
def chg (p q : List Nat) : List Nat := (List.range p.length).filter fun i => !decide (par p i = par q i)
structure Pair (p q : List Nat) : Prop where
  len : q.length = p.length
  rts : ∀ i, i < p.length → (par p i = i ↔ par q i = i)
/-- nothing bars the way -/
def Free (p q : List Nat) (i : Nat) : Prop := ∀ j ∈ (path p i).dropLast, par q j = root p i
structure Way (p q : List Nat) : Prop extends Pair p q where
  fo : FoOk p
  free : ∀ i ∈ chg p q, Free p q i
end G

/-! GWayM: the ways to forests that finds make. Plain mathematics. -/
namespace G
section
variable {p : List Nat} {M : Nat → Bool}
end
/-! ### all but one of the needed nodes -/
section
variable {p xs : List Nat} {t : Nat} {rest : List Nat}
end
end G

/-! GAny: any; a returned cell read as a tree. -/
namespace G
open PySem PySem.Spec L2
def sAny : Spec := fun ds cs Q _ => match ds with
  | [x] => match getL x cs with
    | some xs => match asBools xs with
      | some bs => Q (.bl (bs.any id)) cs
      | none => False
    | none => False
  | _ => False
@[simp] theorem sAny_e {x : D} {cs : Cs} {Q : KD} {X : KX} : sAny [x] cs Q X = match getL x cs with
    | some xs => match asBools xs with
      | some bs => Q (.bl (bs.any id)) cs
      | none => False
    | none => False := rfl
section
variable {P : Program} {w : World} {K : PySem.W.Frag} {mg : Str → Option Value} {base : Heap} {k : Nat} {f : Addr} {fd : FuncData} {ps : List Str} {sp : Spec}
end
section
variable {X : Cx} {W : WX} {pos p : Pos} {a : Expr} {ca : E} {K : PySem.W.Frag}
end
end G

/-! GWayG: bars of ways, told for all pairs; needed nodes one by one; ways counted. -/
namespace G
open PySem (Str)
/-! ### bars -/
def wrong (p q : List Nat) (i : Nat) : List Nat := (path p i).dropLast.filter fun j => !decide (par q j = root p i)
def barO (p q : List Nat) (i : Nat) : Option Nat := (wrong p q i).head?
def barred (p q : List Nat) : List Nat := (chg p q).filter fun i => (barO p q i).isSome
/-! ### needed nodes one by one -/
end G

/-! GSameR: _law_same of what denotes the same tree: cells count as their lists, at any depth. -/
namespace G
open PySem (Str)
def densW (f : D → Option D) : List D → Option (List D)
  | [] => some []
  | x :: xs => match f x, densW f xs with
    | some a, some b => some (a :: b)
    | _, _ => none
/-- the tree that a value denotes, not deeper -/
def den (cs : Cs) : Nat → D → Option D
  | _, .non => some .non
  | _, .bl b => some (.bl b)
  | _, .int i => some (.int i)
  | _, .str s => if strOk s then some (.str s) else none
  | k + 1, .lst xs => if xs.length ≤ lim then (densW (den cs k) xs).map .lst else none
  | k + 1, .tup xs => if xs.length ≤ lim then (densW (den cs k) xs).map .tup else none
  | k + 1, .ref n => match cs n with
    | some (.lst xs) => if xs.length ≤ lim then (densW (den cs k) xs).map .lst else none
    | _ => none
  | _, _ => none
def spSR : Nat → Spec
  | 0 => fun _ _ _ _ => False
  | k + 1 => fun ds cs Q _ => ∃ x y t, ds = [x, y] ∧ den cs k x = some t ∧ den cs k y = some t ∧ Q (.bl true) cs
theorem densW_len {f : D → Option D} : ∀ {xs ts : List D}, densW f xs = some ts → xs.length = ts.length
  | [], ts, h => by
    cases h
    rfl
  | x :: xs, ts, h => by
    unfold densW at h
    split at h
    · rename_i a b e1 e2
      cases h
      simp [densW_len e2]
    · cases h
theorem densW_zip {f : D → Option D} : ∀ {xs ys ts : List D}, densW f xs = some ts → densW f ys = some ts → ∀ d ∈ zipD xs ys, ∃ a b t, d = .tup [a, b] ∧ f a = some t ∧ f b = some t
  | [], _, _, _, _, d, hd => by cases hd
  | x :: xs, [], _, _, _, d, hd => by cases hd
  | x :: xs, y :: ys, ts, h, k, d, hd => by
    unfold densW at h k
    split at h
    · rename_i a b e1 e2
      cases h
      split at k
      · rename_i a2 b2 e3 e4
        cases k
        rcases List.mem_cons.mp (show d ∈ D.tup [x, y] :: zipD xs ys from hd) with z | z
        · exact ⟨x, y, a, z, e1, e3⟩
        · exact densW_zip e2 e4 d z
      · cases k
    · cases h
theorem zipD_len2 : ∀ {xs ys : List D}, xs.length = ys.length → (zipD xs ys).length = xs.length
  | [], [], _ => rfl
  | x :: xs, y :: ys, h => by
    show (zipD xs ys).length + 1 = _
    rw [zipD_len2 (by simpa using h)]
    rfl
/-- a list, or a cell with it -/
def LstAt (cs : Cs) (x : D) (xs : List D) : Prop := x = .lst xs ∨ ∃ n, x = .ref n ∧ cs n = some (.lst xs)
theorem den_lst {cs : Cs} {k : Nat} {x : D} {ts : List D} (h : den cs k x = some (.lst ts)) : ∃ k' xs, k = k' + 1 ∧ LstAt cs x xs ∧ xs.length ≤ lim ∧ densW (den cs k') xs = some ts := by
  cases k with
  | zero =>
    cases x with
    | str s =>
      simp only [den] at h
      split at h <;> cases h
    | _ => simp [den] at h
  | succ k =>
    cases x with
    | lst xs =>
      simp only [den] at h
      split at h
      · rename_i hl
        cases e : densW (den cs k) xs with
        | none =>
          rw [e] at h
          cases h
        | some ys =>
          rw [e] at h
          cases h
          exact ⟨k, xs, rfl, .inl rfl, hl, e⟩
      · cases h
    | ref n =>
      simp only [den] at h
      split at h
      · rename_i xs hc
        split at h
        · rename_i hl
          cases e : densW (den cs k) xs with
          | none =>
            rw [e] at h
            cases h
          | some ys =>
            rw [e] at h
            cases h
            exact ⟨k, xs, rfl, .inr ⟨n, rfl, hc⟩, hl, e⟩
        · cases h
      · cases h
    | tup xs =>
      simp only [den] at h
      split at h
      · cases e : densW (den cs k) xs with
        | none => rw [e] at h; cases h
        | some ys => rw [e] at h; cases h
      · cases h
    | str s =>
      simp only [den] at h
      split at h <;> cases h
    | _ => simp [den] at h
theorem den_tup {cs : Cs} {k : Nat} {x : D} {ts : List D} (h : den cs k x = some (.tup ts)) : ∃ k' xs, k = k' + 1 ∧ x = .tup xs ∧ xs.length ≤ lim ∧ densW (den cs k') xs = some ts := by
  cases k with
  | zero =>
    cases x with
    | str s =>
      simp only [den] at h
      split at h <;> cases h
    | _ => simp [den] at h
  | succ k =>
    cases x with
    | tup xs =>
      simp only [den] at h
      split at h
      · rename_i hl
        cases e : densW (den cs k) xs with
        | none =>
          rw [e] at h
          cases h
        | some ys =>
          rw [e] at h
          cases h
          exact ⟨k, xs, rfl, rfl, hl, e⟩
      · cases h
    | ref n =>
      simp only [den] at h
      split at h
      · split at h
        · rename_i xs _ _
          cases e : densW (den cs k) xs with
          | none => rw [e] at h; cases h
          | some ys => rw [e] at h; cases h
        · cases h
      · cases h
    | lst xs =>
      simp only [den] at h
      split at h
      · cases e : densW (den cs k) xs with
        | none => rw [e] at h; cases h
        | some ys => rw [e] at h; cases h
      · cases h
    | str s =>
      simp only [den] at h
      split at h <;> cases h
    | _ => simp [den] at h
/-- what denotes a plain thing is it -/
theorem den_flat {cs : Cs} {k : Nat} {x t : D} (h : den cs k x = some t) (hf : flat t = true) : x = t ∧ (∀ s, t = .str s → strOk s = true) := by
  cases x with
  | lst xs =>
    cases k with
    | zero => simp [den] at h
    | succ k =>
      simp only [den] at h
      split at h
      · cases e : densW (den cs k) xs with
        | none => rw [e] at h; cases h
        | some ys => rw [e] at h; cases h; cases hf
      · cases h
  | tup xs =>
    cases k with
    | zero => simp [den] at h
    | succ k =>
      simp only [den] at h
      split at h
      · cases e : densW (den cs k) xs with
        | none => rw [e] at h; cases h
        | some ys => rw [e] at h; cases h; cases hf
      · cases h
  | ref n =>
    cases k with
    | zero => simp [den] at h
    | succ k =>
      simp only [den] at h
      split at h
      · split at h
        · rename_i xs _ _
          cases e : densW (den cs k) xs with
          | none => rw [e] at h; cases h
          | some ys => rw [e] at h; cases h; cases hf
        · cases h
      · cases h
  | str s =>
    cases k <;> (simp only [den] at h; split at h <;> cases h; rename_i hs; exact ⟨rfl, fun s' e => by cases e; exact hs⟩)
  | dic _ _ => cases k <;> simp [den] at h
  | scr => cases k <;> simp [den] at h
  | clo _ _ _ => cases k <;> simp [den] at h
  | non => cases k <;> (simp only [den] at h; cases h; exact ⟨rfl, fun s e => by cases e⟩)
  | bl b => cases k <;> (simp only [den] at h; cases h; exact ⟨rfl, fun s e => by cases e⟩)
  | int b => cases k <;> (simp only [den] at h; cases h; exact ⟨rfl, fun s e => by cases e⟩)
theorem map_no {o : Option (List D)} {g : List D → D} {t : D} (h : o.map g = some t) : ∃ ys, t = g ys := by
  cases o with
  | none => cases h
  | some ys =>
    cases h
    exact ⟨ys, rfl⟩
def treeD : D → Prop
  | .dic _ _ => False
  | .ref _ => False
  | .scr => False
  | .clo _ _ _ => False
  | _ => True
theorem den_no {cs : Cs} {k : Nat} {x t : D} (h : den cs k x = some t) : treeD t := by
  cases x with
  | lst xs =>
    cases k with
    | zero => simp [den] at h
    | succ k =>
      simp only [den] at h
      split at h
      · obtain ⟨ys, e⟩ := map_no h
        rw [e]
        trivial
      · cases h
  | tup xs =>
    cases k with
    | zero => simp [den] at h
    | succ k =>
      simp only [den] at h
      split at h
      · obtain ⟨ys, e⟩ := map_no h
        rw [e]
        trivial
      · cases h
  | ref n =>
    cases k with
    | zero => simp [den] at h
    | succ k =>
      simp only [den] at h
      split at h
      · split at h
        · obtain ⟨ys, e⟩ := map_no h
          rw [e]
          trivial
        · cases h
      · cases h
  | str s =>
    cases k <;> (simp only [den] at h; split at h <;> cases h; trivial)
  | dic _ _ => cases k <;> simp [den] at h
  | scr => cases k <;> simp [den] at h
  | clo _ _ _ => cases k <;> simp [den] at h
  | non => cases k <;> (simp only [den] at h; cases h; trivial)
  | bl b => cases k <;> (simp only [den] at h; cases h; trivial)
  | int b => cases k <;> (simp only [den] at h; cases h; trivial)
theorem ok_sameR (k : Nat) (hk : k ≤ 64) : okFn 4 (c_same (spSR k)) (spSR (k + 1)) := by
  rintro ds cs Q X ⟨x, y, t, rfl, hx, hy, hQ⟩
  show wpS (c_same (spSR k)) [some x, some y, none, none] cs _
  unfold c_same
  simp only [wpS]
  have seqs : ∀ (k' : Nat) (xs ys ts : List D), k = k' + 1 → densW (den cs k') xs = some ts → densW (den cs k') ys = some ts → xs.length ≤ lim → ∀ (σ : Sl) (R : List D → Cs → Prop) (a b : Option D),
      R (List.replicate xs.length (.bl true)) cs → ∀ grd : Cs → Prop, grd cs → compL (.tup (.cons (.nm 2) (.cons (.nm 3) .nil))) grd [some x, some y, none, none] (fun σ1 c2 K => K (D.bl true) c2) (fun σ1 c2 K => wpE (.app (spSR k) (.cons (.v 2) (.cons (.v 3) .nil))) σ1 c2 K fun _ _ => False) R (zipD xs ys) [] cs := fun k' xs ys ts ek hx hy hl σ R a b hR grd hg => by
    have le : xs.length = ys.length := (densW_len hx).trans (densW_len hy).symm
    refine compL_map (fun _ => .bl true) hg _ _ (fun d hd => ?_) (by rw [zipD_len2 le]; simpa using hl) ?_
    · obtain ⟨a, b, u, e, h1, h2⟩ := densW_zip hx hy d hd
      subst e
      refine ⟨_, rfl, fun K h => h, fun K h => ?_⟩
      subst ek
      exact ⟨a, b, u, rfl, h1, h2, h⟩
    · rw [List.nil_append, map_const, zipD_len2 le]
      exact hR
  rw [c_same_2]
  cases t with
  | lst ts =>
    obtain ⟨k1, xs, ek, ax, lx, dx⟩ := den_lst hx
    obtain ⟨k2, ys, ek2, ay, ly, dy⟩ := den_lst hy
    have e12 : k1 = k2 := by omega
    subst e12
    have le : xs.length = ys.length := (densW_len dx).trans (densW_len dy).symm
    rcases ax with rfl | ⟨n, rfl, hn⟩ <;> rcases ay with rfl | ⟨m, rfl, hm⟩
    · simp [isN]
      rw [c_same_6]
      simp [isTy]
      rw [c_same_4]
      simp [isTy]
      rw [c_same_5]
      simp [iZip, le]
      refine seqs k1 xs ys ts ek dx dy lx [] _ none none ?_ _ (by simp [grdL])
      simp [asBools_true]
      exact hQ
    · simp [isN]
      rw [c_same_6]
      simp [isTy, hm]
      rw [c_same_4]
      simp [isTy, hm]
      rw [c_same_5]
      simp [iZip, le, hm]
      refine seqs k1 xs ys ts ek dx dy lx [] _ none none ?_ _ (by simp [grdL])
      simp [asBools_true]
      exact hQ
    · simp [isN]
      rw [c_same_6]
      simp [isTy, hn]
      rw [c_same_4]
      simp [isTy, hn]
      rw [c_same_5]
      simp [iZip, le, hn]
      refine seqs k1 xs ys ts ek dx dy lx [] _ none none ?_ _ (by simp [grdL])
      simp [asBools_true]
      exact hQ
    · simp [isN]
      rw [c_same_6]
      simp [isTy, hn, hm]
      rw [c_same_4]
      simp [isTy, hn, hm]
      rw [c_same_5]
      simp [iZip, le, hn, hm]
      refine seqs k1 xs ys ts ek dx dy lx [] _ none none ?_ _ (by simp [grdL])
      simp [asBools_true]
      exact hQ
  | tup ts =>
    obtain ⟨k1, xs, ek, rfl, lx, dx⟩ := den_tup hx
    obtain ⟨k2, ys, ek2, rfl, ly, dy⟩ := den_tup hy
    have e12 : k1 = k2 := by omega
    subst e12
    have le : xs.length = ys.length := (densW_len dx).trans (densW_len dy).symm
    simp [isN]
    rw [c_same_6]
    simp [isTy]
    rw [c_same_4]
    simp [isTy]
    rw [c_same_5]
    simp [iZip, le]
    refine seqs k1 xs ys ts ek dx dy lx [] _ none none ?_ _ trivial
    simp [asBools_true]
    exact hQ
  | non =>
    obtain ⟨rfl, _⟩ := den_flat hx rfl
    obtain ⟨rfl, _⟩ := den_flat hy rfl
    rw [c_same_1]
    simp [isN]
    exact hQ
  | int i =>
    obtain ⟨rfl, _⟩ := den_flat hx rfl
    obtain ⟨rfl, _⟩ := den_flat hy rfl
    simp [isN]
    rw [c_same_6]
    simp [isTy]
    rw [c_same_8]
    simp [isTy]
    rw [c_same_9]
    simp [isTy]
    exact hQ
  | bl i =>
    obtain ⟨rfl, _⟩ := den_flat hx rfl
    obtain ⟨rfl, _⟩ := den_flat hy rfl
    simp [isN]
    rw [c_same_6]
    simp [isTy]
    rw [c_same_8]
    simp [isTy]
    rw [c_same_9]
    simp [isTy]
    exact hQ
  | str i =>
    obtain ⟨rfl, hs⟩ := den_flat hx rfl
    obtain ⟨rfl, _⟩ := den_flat hy rfl
    simp [isN]
    rw [c_same_6]
    simp [isTy]
    rw [c_same_8]
    simp [isTy]
    rw [c_same_9]
    simp [isTy, sEq_e, deref, pur, eqD, hs i rfl]
    exact hQ
  | dic _ _ => exact (den_no hx).elim
  | ref _ => exact (den_no hx).elim
  | scr => exact (den_no hx).elim
  | clo _ _ _ => exact (den_no hx).elim
mutual
theorem den_pur {cs : Cs} : ∀ (k : Nat) (x : D), pur k x = true → den cs k x = some x
  | k, .non, _ => by cases k <;> rfl
  | k, .bl b, _ => by cases k <;> rfl
  | k, .int i, _ => by cases k <;> rfl
  | k, .str s, h => by
    have hs : strOk s = true := by cases k <;> exact h
    cases k <;> simp [den, hs]
  | 0, .lst _, h => by cases h
  | 0, .tup _, h => by cases h
  | k + 1, .lst xs, h => by
    simp only [den]
    rw [if_pos (pur_len h), densW_pur k xs (pur_in h)]
    rfl
  | k + 1, .tup xs, h => by
    simp only [den]
    rw [if_pos (pur_len h), densW_pur k xs (pur_in h)]
    rfl
  | k, .dic _ _, h => by cases k <;> cases h
  | k, .ref _, h => by cases k <;> cases h
  | k, .scr, h => by cases k <;> cases h
  | k, .clo _ _ _, h => by cases k <;> cases h
theorem densW_pur {cs : Cs} : ∀ (k : Nat) (xs : List D), purs k xs = true → densW (den cs k) xs = some xs
  | _, [], _ => rfl
  | k, x :: xs, h => by
    have h : (pur k x && purs k xs) = true := h
    rw [Bool.and_eq_true] at h
    unfold densW
    rw [den_pur k x h.1, densW_pur k xs h.2]
end
theorem spSR_e {k : Nat} {x y t : D} {cs : Cs} {Q : KD} {X : KX} (hx : den cs k x = some t) (hy : den cs k y = some t) (hQ : Q (.bl true) cs) : spSR (k + 1) [x, y] cs Q X := ⟨x, y, t, rfl, hx, hy, hQ⟩
theorem spSR_p {k : Nat} {x : D} {cs : Cs} {Q : KD} {X : KX} (hx : pur k x = true) (hQ : Q (.bl true) cs) : spSR (k + 1) [x, x] cs Q X := spSR_e (den_pur k x hx) (den_pur k x hx) hQ
open PySem PySem.Spec L2 in
theorem fnOk_zeroR {P : Program} {w : World} {K : PySem.W.Frag} {mg : PySem.Str → Option Value} {base : Heap} {f : Addr} {fd : FuncData} {ps : List PySem.Str} : FnOk P w K mg base (L2N.CX P w) 0 f fd ps (lift K mg (spSR 0)) := fnOk_false
end G

/-! GFind: the laws' own finds; strange nodes. -/
namespace G
open PySem (Str)
@[simp] theorem sListOfM_e {x : D} {cs : Cs} {Q : KD} {X : KX} : sListOfM [x] cs Q X = match getQ x cs with
    | some xs => ∀ n, cs n = none → Q (.ref n) (put cs n (.lst xs))
    | none => False := rfl
end G

/-! GExc: own exceptions whose __init__ stores a tag and a field, over any built-in base; raise. -/
namespace G
open PySem PySem.Spec L2
open Evl (Ex)
/-- an own exception class over a built-in one -/
structure XcC (K : PySem.W.Frag) (C : Addr) : Prop where
  base : ∃ (B newId initId : String) (bmB : List Value), ExcBaseFacts B newId initId bmB ∧ StoreFacts B bmB "object.__setattr__" "object" ∧ PySem.W.excInitIn K C bmB newId = true ∧ PySem.W.excOver K C bmB = true
  hd : PySem.W.hasDictIn K C = true
  sa : PySem.W.findIn K (.ref C) "__setattr__" = some (some (.builtin "object.__setattr__"))
  exC : PySem.W.subIn K (.ref C) (.type "BaseException") = some true
  tyC : PySem.W.typeIn K (.ref C) = some (.type "type")
  kC : PySem.W.keepIn K (.ref C) = true
def xcBases : List (String × String × List Value) := [("ValueError", "ValueError.__new__", [.type "ValueError", .type "Exception", .type "BaseException", .type "object"]), ("LookupError", "LookupError.__new__", [.type "LookupError", .type "Exception", .type "BaseException", .type "object"]),
  ("IndexError", "IndexError.__new__", [.type "IndexError", .type "LookupError", .type "Exception", .type "BaseException", .type "object"])]
def xcB (K : PySem.W.Frag) (C : Addr) : Bool := xcBases.any (fun q => PySem.W.excInitIn K C q.2.2 q.2.1 && PySem.W.excOver K C q.2.2) && (PySem.W.hasDictIn K C && (decide (PySem.W.findIn K (.ref C) "__setattr__" = some (some (.builtin "object.__setattr__"))) &&
  (decide (PySem.W.subIn K (.ref C) (.type "BaseException") = some true) && (decide (PySem.W.typeIn K (.ref C) = some (.type "type")) && PySem.W.keepIn K (.ref C)))))
theorem xcB_ok {K : PySem.W.Frag} {C : Addr} (h : xcB K C = true) : XcC K C := by
  unfold xcB at h
  simp only [Bool.and_eq_true, decide_eq_true_eq] at h
  obtain ⟨h1, h2, h3, h4, h5, h6⟩ := h
  refine ⟨?_, h2, h3, h4, h5, h6⟩
  obtain ⟨q, hq, e⟩ := List.any_eq_true.mp h1
  rw [Bool.and_eq_true] at e
  simp only [xcBases, List.mem_cons, List.not_mem_nil, or_false] at hq
  rcases hq with hq | hq | hq
  · subst hq
    exact ⟨_, _, _, _, F.excBase_ValueError, F.store_ValueError, e.1, e.2⟩
  · subst hq
    exact ⟨_, _, _, _, F.excBase_LookupError, F.store_LookupError, e.1, e.2⟩
  · subst hq
    exact ⟨_, _, _, _, F.excBase_IndexError, F.store_IndexError, e.1, e.2⟩
theorem taker_none {K : PySem.W.Frag} {C : Addr} {f : Str} (h : PySem.W.findIn K (.ref C) f = some none) : PySem.W.takerIn K C f = some none := by
  unfold PySem.W.takerIn
  rw [h]
  rfl
theorem cls_hd {K : PySem.W.Frag} {C : Addr} (h : PySem.W.hasDictIn K C = true) : ∃ cd, PySem.W.clsIn K C = some cd ∧ cd.hasDict = true := by
  unfold PySem.W.hasDictIn at h
  cases e : PySem.W.clsIn K C with
  | none => rw [e] at h; cases h
  | some cd => rw [e] at h; exact ⟨cd, rfl, h⟩
section
variable {X : Cx} {pins : List (Addr × Obj)} {σ : St} {H : Hp} {s : Shared} {a C dx : Addr} {f : Str} {y : V} {u : Value} {fs : List (Str × V)} {Q : Unit → Shared → Prop} {E : Value → Shared → Prop} {A : Around}
/-- the first field of a new exception -/
theorem xs_new (T : XcC X.K C) (I : Inv X pins σ H s) (e : H a = some (exo a C none)) (hno : PySem.W.findIn X.K (.ref C) f = some none) (ry : RelV y u)
    (h : ∀ dx s', H dx = none → dx ≠ a → Inv X pins σ (upd (upd H dx (exd dx [(f, y)])) a (exo a C (some dx))) s' → Q () s') : wpAny (model X.prog X.w) A (setAttr (.ref a) f u) Q E s := by
  obtain ⟨B, newId, initId, bmB, FB, SF, T1, T2⟩ := T.base
  obtain ⟨cd, hcl, hdd⟩ := cls_hd T.hd
  obtain ⟨t1, ho⟩ := exo_at I.hok e
  obtain ⟨hp, g, d, t, os⟩ := s
  have hxs : a ≠ hp.objs.size := Nat.ne_of_lt (Heap.lt_size ho)
  have IA : PySem.W.InstAt hp a { cls := .ref C, dict := none, data := .fields #[.ref t1, .none, .none, .none, .bool false, .none] } C none := ⟨ho, rfl, rfl, trivial⟩
  refine PySem.W.set_plain I.kIn (ox := { cls := .ref C, dict := none, data := .fields #[.ref t1, .none, .none, .none, .bool false, .none] }) (od := none) IA T.sa ?_
  have fin : ∀ h' tk' dx, (∀ b o, b ≠ a → hp.get? b = some o → h'.get? b = some o) → hp.objs.size ≤ dx → dx ≠ a → h'.get? a = some ({ cls := .ref C, dict := some dx, data := .fields #[.ref t1, .none, .none, .none, .bool false, .none] } : Obj) →
      h'.Ns1 dx (fun z => if z = f then some u else none) → Q () ⟨h', g, d, tk', os⟩ := fun h' tk' dx k dn dne hx hn => by
    have hnd : H dx = none := I.hok.fresh dn
    have nd : ∀ {b : Addr} {o : Obj}, hp.get? b = some o → b ≠ dx := fun {b o} q => Nat.ne_of_lt (Nat.lt_of_lt_of_le (Heap.lt_size q) dn)
    have na : ∀ {b : Addr}, H b = none → b ≠ a := fun {b} n z => by
      rw [z, e] at n
      cases n
    have U : Un X.fs [] H (upd (upd H dx (exd dx [(f, y)])) a (exo a C (some dx))) hp h' := by
      constructor
      · exact fun b o q n _ _ => k b o (na n) q
      · exact fun b o q n _ _ => ⟨o.slots, k b o (na n) q⟩
      · exact fun b o q n _ => by rw [upd_ne (na n), upd_ne (nd q)]; exact n
      · intro b o q _
        by_cases hb : b = a
        · exact ⟨_, by rw [hb]; exact hx⟩
        · exact ⟨o, k b o hb q⟩
      · exact fun b xs q => by rw [upd_ne (at_ne e q exo_tup), upd_ne (ne_of_none q hnd)]; exact q
      · exact fun b o v q => by rw [upd_ne (at_ne e q exo_frz), upd_ne (ne_of_none q hnd)]; exact q
      · exact fun b ps q => ⟨#[], by rw [upd_ne (at_ne e q exo_tbl), upd_ne (ne_of_none q hnd), q]; simp⟩
    refine h dx _ hnd dne (I.un (t' := tk') U fun b o q => ?_)
    by_cases hb : b = a
    · subst hb
      rw [upd_same] at q
      cases q
      exact exo_ok hx
    · rw [upd_ne hb] at q
      by_cases hd : b = dx
      · subst hd
        rw [upd_same] at q
        cases q
        exact exd_ok hn (relO_put (fs := []) ry fun g => True.intro)
      · rw [upd_ne hd] at q
        refine (I.hok b o q).stay (fun c v hc z => k c v ?_ z) (fun c hc => ?_) (fun c xs hc => ?_)
        · rcases hc with hc | hc
          · rw [hc]
            exact hb
          · exact at_ne e hc exo_own
        · rw [upd_ne (at_ne e hc exo_own), upd_ne (ne_of_none hc hnd)]
          exact hc
        · rw [upd_ne (at_ne e hc exo_tup), upd_ne (ne_of_none hc hnd)]
          exact hc
  refine PySem.W.osa_openX (s := ⟨hp, g, d, t + 1, os⟩) SF I.kIn IA T2 (taker_none hno) fun b => ?_
  have hcls : PySem.W.Looks (model X.prog X.w) hp (classData C) cd := PySem.W.looks_clsIn I.kIn hcl
  obtain ⟨nm, bs, mro, ns, qn, hdc, sn, sb, ab, col, del⟩ := cd
  dsimp only at hdd
  subst hdd
  unfold Builtin.ObjectAttr.storeInOwnDict Builtin.ObjectAttr.ownDictForStores
  repeat (first | with_reducible refine PySem.HandSPX.store_in_new ?_ ?_ | with_reducible refine wpAny_loadPart_at ho ?_ | with_reducible refine hcls.at ?_ | wp_step)
  · exact ⟨_, #[], _, (Heap.get?_update_ne _ _ _ _ hxs.symm).trans (Heap.get?_push_at rfl rfl), rfl, fun e he => absurd he (by simp), fun _ => rfl⟩
  · intro h' tk' hn' hs
    have hx₁ : (hp.push { cls := .type "dict", data := .dict #[] }).get? a = some ({ cls := .ref C, dict := none, data := .fields #[.ref t1, .none, .none, .none, .bool false, .none] } : Obj) := Heap.get?_push_of_some _ ho
    refine fin h' tk' hp.objs.size (fun b o hb ho => ?_) (Nat.le_refl _) hxs.symm ?_ hn'
    · exact (hs.2 b (Nat.ne_of_lt (Heap.lt_size ho))).trans ((Heap.get?_update_ne _ _ _ _ hb).trans (Heap.get?_push_of_some _ ho))
    · exact (hs.2 a hxs).trans (Heap.get?_update_self _ hx₁ rfl)
/-- a further field -/
theorem xs_old (T : XcC X.K C) (I : Inv X pins σ H s) (e : H a = some (exo a C (some dx))) (ed : H dx = some (exd dx fs)) (hl : fs.length ≤ 900) (hno : PySem.W.findIn X.K (.ref C) f = some none) (ry : RelV y u)
    (h : ∀ s', Inv X pins σ (upd H dx (exd dx ((f, y) :: fs))) s' → Q () s') : wpAny (model X.prog X.w) A (setAttr (.ref a) f u) Q E s := by
  obtain ⟨B, newId, initId, bmB, FB, SF, T1, T2⟩ := T.base
  obtain ⟨cd, hcl, hdd⟩ := cls_hd T.hd
  obtain ⟨t1, ho⟩ := exo_at I.hok e
  obtain ⟨mA, hns, rel⟩ := exd_at I.hok ed
  have hw := within_of rel
  obtain ⟨hp, g, d, t, os⟩ := s
  obtain ⟨oD, _, _, hoD, _, _⟩ := hns.count hw
  have IA : PySem.W.InstAt hp a { cls := .ref C, dict := some dx, data := .fields #[.ref t1, .none, .none, .none, .bool false, .none] } C (some oD) := ⟨ho, rfl, rfl, hoD⟩
  refine PySem.W.set_plain I.kIn (ox := { cls := .ref C, dict := some dx, data := .fields #[.ref t1, .none, .none, .none, .bool false, .none] }) (od := some oD) IA T.sa ?_
  refine PySem.W.osa_openX (s := ⟨hp, g, d, t + 1, os⟩) SF I.kIn IA T2 (taker_none hno) fun b => ?_
  have hcls : PySem.W.Looks (model X.prog X.w) hp (classData C) cd := PySem.W.looks_clsIn I.kIn hcl
  obtain ⟨nm, bs, mro, ns, qn, hdc, sn, sb, ab, col, del⟩ := cd
  dsimp only at hdd
  subst hdd
  unfold Builtin.ObjectAttr.storeInOwnDict Builtin.ObjectAttr.ownDictForStores
  repeat (first | with_reducible refine PySem.OEX.store_in_old hns hw (by rw [List.length_map]; omega) ?_ | with_reducible refine wpAny_loadPart_at ho ?_ | with_reducible refine hcls.at ?_ | wp_step)
  intro h' tk' hn' hs
  have hd : ∃ o, h'.get? dx = some o := by
    obtain ⟨o, _, _, e', _⟩ := hn'
    exact ⟨o, e'⟩
  exact h _ (I.write (t' := tk') (x := dx) (e := dx) (o := exd dx ((f, y) :: fs)) (by rw [ed]; exact True.intro) (.inl rfl) (fun b o hb e => (hs.2 b hb).trans e) hd (exd_ok hn' (relO_put ry rel)))
end
/-! ### self.f = .., as a target -/
def gX (K : PySem.W.Frag) (f : Str) (to : TE) : TG := fun y σ H Q => to σ H fun x H2 => ∃ a C : Addr, x = .ref a ∧ XcC K C ∧ PySem.W.findIn K (.ref C) f = some none ∧
  ((H2 a = some (exo a C none) ∧ ∀ dx, H2 dx = none → dx ≠ a → Q σ (upd (upd H2 dx (exd dx [(f, y)])) a (exo a C (some dx)))) ∨
    ∃ (dx : Addr) (fs : List (Str × V)), H2 a = some (exo a C (some dx)) ∧ H2 dx = some (exd dx fs) ∧ fs.length ≤ 900 ∧ Q σ (upd H2 dx (exd dx ((f, y) :: fs))))
section
variable {X : Cx} {o e : Expr} {es : List Expr} {to te : TE} {ta : TA} {f : Str} {p p' pos : Pos}
theorem pg_x (ho : PE X o to) (ha : ∀ v, assign (.Attribute o f p') X.env v = (do
      let ov ← holding [v] (eval o X.env)
      standAt p'.atName
      holding [v, ov] (setAttr ov f v)
      release [v, ov] []) := by intro _; rfl) : PG X (.Attribute o f p') (gX X.K f to) := by
  refine ⟨fun pins s σ H v u Q I r h => ?_⟩
  rw [ha]
  refine wpAny_bind (wpAny_holding (thn (ho.run pins s σ H _ I h) fun ov s1 ⟨x, H1, I1, r1, a, C, ex, T, hno, q⟩ => ?_))
  subst ex
  obtain rfl : ov = Value.ref a := r1
  refine wpAny_bind (wpAny_standAt (wpAny_bind (wpAny_holding ?_)))
  rcases q with ⟨ea, q⟩ | ⟨dx, fs, ea, ed, hl, q⟩
  · exact xs_new T I1 ea hno r fun dx s' n ne J => wpAny_release ⟨σ, _, J, q dx n ne⟩
  · exact xs_old T I1 ea ed hl hno r fun s' J => wpAny_release ⟨σ, _, J, q⟩
/-! ### C(e, ..), C's own __init__ keeping sp -/
def tMkX (C : Addr) (sp : Sp) (ta : TA) : St → Hp → XK → Prop := fun σ H Q => ta σ H fun vs H1 => vs.length ≤ 1000 ∧ ∀ a, H1 a = none → sp (.ref a :: vs) (upd H1 a (exo a C none))
  (fun v H2 => v = .non ∧ ∃ (d : Addr) (fs : List (Str × V)), H2 a = some (exo a C (some d)) ∧ H2 d = some (exd d fs) ∧ H1 d = none ∧ Q (.ref C) (some d) (upd (L2.del H2 a) d (.xd fs))) (fun _ _ _ => False)
theorem mkx_run {C fI : Addr} {k : Nat} {fd : FuncData} {ps : List Str} {sp : Sp} {pins : List (Addr × Obj)} {σ : St} {H1 : Hp} {s1 : Shared} {us : List Value} {vs : List V} {Q : XK} (T : XcC X.K C) (iC : PySem.W.findIn X.K (.ref C) "__init__" = some (some (.ref fI))) (tI : PySem.W.typeIn X.K (.ref fI) = some (.type "function"))
    (F1 : FnOk X.prog X.w X.K X.mg X.base (L2N.CX X.prog X.w) k fI fd ps sp) (hr : Room (k + 1) X.A) (hb : Binds X.K fd ps []) (hx : Passes (L2N.CX X.prog X.w) X (fun _ _ _ => False)) (I1 : Inv X pins σ H1 s1) (r1 : Vals vs us) (hz : vs.length ≤ 1000)
    (q1 : ∀ a, H1 a = none → sp (.ref a :: vs) (upd H1 a (exo a C none)) (fun v H2 => v = .non ∧ ∃ (d : Addr) (fs : List (Str × V)), H2 a = some (exo a C (some d)) ∧ H2 d = some (exd d fs) ∧ H1 d = none ∧ Q (.ref C) (some d) (upd (L2.del H2 a) d (.xd fs))) (fun _ _ _ => False)) :
    wpAny (model X.prog X.w) X.A (call (.ref C) us) (L2N.MkP X pins σ Q) X.xe s1 := by
  obtain ⟨B, newId, initId, bmB, FB, SF, T1, T2⟩ := T.base
  obtain ⟨hp, g, dr, tk, os⟩ := s1
  obtain ⟨nm, N, qn, bs, bm, hdct, sn, sub, ab, col, dd, k0, k1, k2, k3, k5, hC, hT⟩ := PySem.W.excInit_of I1.kIn T1
  have hsz : hp.objs.size ≤ hp.objs.size + 1 := Nat.le_succ _
  have hn : H1 (hp.objs.size + 1) = none := I1.hok.fresh hsz
  have hq := q1 (hp.objs.size + 1) hn
  have kk : ∀ b o, hp.get? b = some o → ((hp.push (PySem.W.kdv_tup us)).push (PySem.HandSPX.excO C hp.objs.size)).get? b = some o := fun b o e => Heap.get?_push_of_some _ (Heap.get?_push_of_some _ e)
  have hget : ((hp.push (PySem.W.kdv_tup us)).push (PySem.HandSPX.excO C hp.objs.size)).get? (hp.objs.size + 1) = some (PySem.HandSPX.excO C hp.objs.size) := by heap_get
  have I2 : Inv X pins σ (upd H1 (hp.objs.size + 1) (exo (hp.objs.size + 1) C none)) ⟨(hp.push (PySem.W.kdv_tup us)).push (PySem.HandSPX.excO C hp.objs.size), g, dr, tk, os⟩ :=
    I1.laid (t' := tk) (a := hp.objs.size + 1) (o := exo (hp.objs.size + 1) C none) (h' := (hp.push (PySem.W.kdv_tup us)).push (PySem.HandSPX.excO C hp.objs.size)) kk hsz (exo_ok hget)
  have r2 : Vals (V.ref (hp.objs.size + 1) :: vs) (Value.ref (hp.objs.size + 1) :: us) := .cons rfl r1
  have hl : (Value.ref (hp.objs.size + 1) :: us).length = ps.length := by
    have e := r2.length
    rw [F1.len _ _ _ _ hq] at e
    exact e.symm
  have hus : us.length ≤ sizeLine := by
    rw [← Paired.length r1, sizeLine_eq]
    omega
  have bb := hb _ (Value.ref (hp.objs.size + 1) :: us) I2.kIn (by rw [List.append_nil]; exact hl)
  rw [List.append_nil] at bb
  refine wpAny_call (PySem.HandSPX.call_own FB hT hC (PySem.W.looks_findIn I1.kIn iC) (fun self => PySem.W.bind_fn I1.kIn self tI) hus
    (codeAny_mono (F1.run _ X.stack _ _ ⟨Value.ref (hp.objs.size + 1) :: us, []⟩ (Value.ref (hp.objs.size + 1) :: us) _ _ (fun _ _ _ => False) (hr.make C us []) (I2.env0.make C us []) bb r2 hq) fun r s' hq' => ?_))
  cases r with
  | error er => exact hx pins σ _ _ er s' I2 hq'
  | ok fl =>
    cases fl with
    | ret u =>
      obtain ⟨v, H2, os2, bare2, un2, hok2, rv, ev, d, fs, ea, ed, hd1, q2⟩ := hq'
      subst ev
      obtain ⟨h2, g2, d2, t2, os'⟩ := s'
      obtain ⟨t0, G, J, kG, ge, hoe, na⟩ := mk_end0 (d2 := d2) (t2 := t2) I1 hsz kk un2 hok2 os2 bare2 ea ed hd1
      exact ⟨rv, hp.objs.size + 1, _, _, ⟨G, g2, d2, t2, os'⟩, _, .ref C, some d, rfl, J, kG, ge, hoe, ⟨rfl, rfl, fun vs hv => by cases hv; rfl⟩, rfl, rfl, na, rfl, bare2, raises_own T.exC T.tyC, q2⟩
    | next => exact False.elim hq'
    | brk => exact False.elim hq'
    | cont => exact False.elim hq'
theorem pmk_x {x : Str} {C fI : Addr} {k : Nat} {fd : FuncData} {ps : List Str} {sp : Sp} (T : XcC X.K C) (iC : PySem.W.findIn X.K (.ref C) "__init__" = some (some (.ref fI))) (tI : PySem.W.typeIn X.K (.ref fI) = some (.type "function"))
    (F1 : FnOk X.prog X.w X.K X.mg X.base (L2N.CX X.prog X.w) k fI fd ps sp) (hr : Room (k + 1) X.A) (hb : Binds X.K fd ps []) (hx : Passes (L2N.CX X.prog X.w) X (fun _ _ _ => False)) (hg : Gl X x) (hm : X.mg x = some (.ref C)) (ha : PA X (e :: es) ta)
    (hdb : (x == ("__debug__" : Str)) = false := by decide) (he : starEach (e :: es) X.env = (false, eval e X.env) :: starEach es X.env := by rfl) (hpl : (backTo pos (starEach es X.env)).any (·.1) = false := by rfl) :
    L2N.PMk X (.Call (.Name x p) (e :: es) [] pos) (tMkX C sp ta) := by
  intro pins s σ H Q I h
  refine wpAny_Call_Name_kw (ld_glob I hg hm ?_ hdb)
  refine PySem.W.callWith_K (h₀ := X.base) I.ok.mod.kin T.kC (thn (ha.run pos pins s σ H _ I h) fun us s1 ⟨vs, H1, I1, r1, hz, q1⟩ => ⟨I1.kIn, ?_⟩) he hpl
  exact mkx_run T iC tI F1 hr hb hx I1 r1 hz q1
end
end G

/-! GRaise: an error's __init__, raise. -/
namespace G
open PySem PySem.Spec L2
open Evl (Ex)
def clsBody (s : Stmt) : List Stmt := match s with
  | .ClassDef _ _ _ b _ _ _ _ _ _ _ => b
  | _ => []
/-- what the written part says of an error class with the field f -/
structure XcF (K : PySem.W.Frag) (C : Addr) (f : Str) : Prop where
  c : XcC K C
  tg : PySem.W.findIn K (.ref C) "tag" = some none
  fl : PySem.W.findIn K (.ref C) f = some none
/-- the __init__ of an error x with the field f -/
def spIni (K : PySem.W.Frag) (x f : Str) : Sp := fun vs H Q E => ∃ a C v, vs = [.ref a, v] ∧ XcF K C f ∧ H a = some (exo a C none) ∧
  ∀ p d, H p = none → upd H p (.tup [.str x, v]) d = none → Q .non (upd (upd (upd (upd H p (.tup [.str x, v])) d (exd d [("tag", .str x)])) a (exo a C (some d))) d (exd d [(f, v), ("tag", .str x)]))
def spIni0 (K : PySem.W.Frag) (x : Str) : Sp := fun vs H Q E => ∃ a C, vs = [.ref a] ∧ XcF K C "tag" ∧ H a = some (exo a C none) ∧
  ∀ d, H d = none → Q .non (upd (upd H d (exd d [("tag", .str x)])) a (exo a C (some d)))
theorem sw_none {a b x y : Expr} {f g : Str} {p1 p2 p3 p4 : Pos} {k1 k2 : Nat} {env : Env} : swappedStores [.Tuple [.Attribute a f p1, .Attribute b g p2] k1 p3] (.Tuple [x, y] k2 p4) env = pure none := by
  unfold swappedStores
  simp only [List.filterMap_cons, List.filterMap_nil]
  split
  · rfl
  · split
    · rfl
    · rfl
section
variable {P : Program} {w : World} {K : PySem.W.Frag} {mg : Str → Option Value} {base : Heap} {x qual f pn : Str} {params : Arguments} {scope : Scope} {fI : Addr} {fd : FuncData} {p1 p2 p3 p4 p5 p6 p7 p8 p9 : Pos} {j k1 k2 : Nat}
theorem ini_ok {body : List Stmt} (FD : FunD K "__init__" qual params body scope [] [] fI fd) (S : FnScope ["self", pn] ["self", pn] scope)
    (hv : scope.names.lookup ("self" : Str) = some .local) (hv2 : scope.names.lookup pn = some .local) (hb : body = [.Assign [.Tuple [.Attribute (.Name "self" p1) "tag" p2, .Attribute (.Name "self" p3) f p4] k1 p5] (.Tuple [.Constant (.str x) j p6, .Name pn p7] k2 p8) p9])
    (hd : (pn == ("__debug__" : Str)) = false := by decide) (hcd : (pn == ("__classdict__" : Str)) = false := by decide) : FnOk P w K mg base (L2N.CX P w) 1 fI fd ["self", pn] (spIni K x f) := by
  subst hb
  refine FD.ok S (fun vs H Q E h => ?_) fun cdv A outer s H vs Q E hr h => ?_
  · obtain ⟨a, C, v, e, _⟩ := h
    rw [e]
    rfl
  · obtain ⟨a, C, v, ev, T, ha, q⟩ := h
    subst ev
    refine ⟨_, pss_one (ps_asg (pe_tup (pa_cons pe_str (pa_cons (pe_var (i := 1) rfl (.inl hv2) hd hcd) pa_nil))) (pg_tup rfl (pgs_cons (pg_x (pe_var (i := 0) rfl (.inl hv))) (pgs_cons (pg_x (pe_var (i := 0) rfl (.inl hv))) pgs_nil))) rfl sw_none), ?_⟩
    refine ⟨v, rfl, by show 2 ≤ sizeLine; rw [sizeLine_eq]; decide, fun p hp => ⟨p, _, rfl, SqT.of upd_same, rfl, .str x, [v], rfl, .ref a, rfl, a, C, rfl, T.c, T.tg, .inl ⟨?_, fun d hd ne => ⟨v, [], rfl, .ref a, rfl, a, C, rfl, T.c, T.fl, .inr ⟨d, [("tag", .str x)], upd_same, ?_, Nat.le_of_ble_eq_true rfl, rfl, ?_⟩⟩⟩⟩⟩
    · rw [upd_ne (ne_of_none ha hp)]
      exact ha
    · rw [upd_ne ne, upd_same]
    · exact q p d hp hd
/-- an error class by its name: its field, its __init__ -/
structure Xc (P : Program) (w : World) (K : PySem.W.Frag) (mg : Str → Option Value) (base : Heap) (x f : Str) : Prop where
  ex : ∃ C fI fd ps, mg x = some (.ref C) ∧ XcF K C f ∧ PySem.W.findIn K (.ref C) "__init__" = some (some (.ref fI)) ∧ PySem.W.typeIn K (.ref fI) = some (.type "function") ∧ FnOk P w K mg base (L2N.CX P w) 1 fI fd ps (spIni K x f) ∧ L2.Binds K fd ps []
structure Xc0 (P : Program) (w : World) (K : PySem.W.Frag) (mg : Str → Option Value) (base : Heap) (x : Str) : Prop where
  ex : ∃ C fI fd ps, mg x = some (.ref C) ∧ XcF K C "tag" ∧ PySem.W.findIn K (.ref C) "__init__" = some (some (.ref fI)) ∧ PySem.W.typeIn K (.ref fI) = some (.type "function") ∧ FnOk P w K mg base (L2N.CX P w) 1 fI fd ps (spIni0 K x) ∧ L2.Binds K fd ps []
end
section
variable {X : Cx} {W : WX} {e : Expr} {ce : E} {p pos pos' : Pos} {x f : Str}
theorem takes_false (tk : L2N.Takes X W) : Passes (L2N.CX X.prog X.w) X (fun _ _ _ => False) := fun pins σ H s er s' I c => tk er s' (L2N.XE.of_call I (fun _ _ _ z => z.elim) c)
theorem hend {H : Hp} {a p d : Addr} {t : HO} {u1 u2 u3 : HO} {o : HO} {fs : HO} (ha : H a = none) (hp : upd H a o p = none) (hd : upd (upd H a o) p t d = none) : upd (L2.del (upd (upd (upd (upd (upd H a o) p t) d u1) a u2) d u3) a) d fs = upd (upd H p t) d fs := by
  have pa : p ≠ a := fun z => by
    subst z
    rw [upd_same] at hp
    cases hp
  have dp : d ≠ p := fun z => by
    subst z
    rw [upd_same] at hd
    cases hd
  funext b
  by_cases hb : b = d
  · subst hb
    rw [upd_same, upd_same]
  · rw [upd_ne hb, upd_ne hb]
    by_cases hba : b = a
    · subst hba
      rw [L2.del_same, upd_ne (Ne.symm pa), ha]
    · rw [L2.del_ne hba, upd_ne hb, upd_ne hba, upd_ne hb]
      by_cases hbp : b = p
      · subst hbp
        rw [upd_same, upd_same]
      · rw [upd_ne hbp, upd_ne hbp, upd_ne hba]
/-- raise X(e) -/
theorem js_raise (XC : Xc X.prog X.w X.K X.mg X.base x f) (hr : Room 2 X.A) (tk : L2N.Takes X W) (hc : X.calm = true) (hg : Gl X x) (he : JE X W e ce) (hdb : (x == ("__debug__" : Str)) = false := by decide)
    (hs : starEach [e] X.env = (false, eval e X.env) :: starEach [] X.env := by rfl) (hpl : (backTo pos (starEach [] X.env)).any (·.1) = false := by rfl) :
    JS X W (.Raise (some (.Call (.Name x p) [e] [] pos)) none pos') (.rse (fun ds => er x f (ds.headD .non)) (.cons ce .nil)) := by
  obtain ⟨C, fI, fd, ps, hm, T, iC, tI, F1, hb⟩ := XC.ex
  obtain ⟨ta, p1, r1⟩ := ja_cons he ja_nil hs
  refine ⟨_, L2N.ps_raise hc tk (pmk_x T.c iC tI F1 hr hb (takes_false tk) hg hm p1 hdb hs hpl), fun wd F τ cs σ H P Q R rs h q => ?_⟩
  have h : wpEs (.cons ce .nil) τ cs (fun ds cs' => P.ex (er x f (ds.headD .non)) τ cs') (fun y cs' => P.ex y τ cs') := h
  refine r1 wd F τ cs σ H (fun ds cs' => (∃ d, ds = [d]) ∧ P.ex (er x f (ds.headD .non)) τ cs') _ _ R rs ?_ (fun wd1 ds c1 vs H1 l1 R1 rv h1 => ?_) (q.xok rs)
  · show wpE ce τ cs (fun d c1 => (∃ d', [d] = [d']) ∧ P.ex (er x f (([d] : List D).headD .non)) τ c1) _
    have e : (fun (d : D) (c1 : Cs) => (∃ d', [d] = [d']) ∧ P.ex (er x f (([d] : List D).headD .non)) τ c1) = fun d c1 => P.ex (er x f (([d] : List D).headD .non)) τ c1 := by
      funext d c1
      exact propext ⟨fun z => z.2, fun z => ⟨⟨d, rfl⟩, z⟩⟩
    rw [e]
    exact h
  · obtain ⟨⟨d, ed⟩, h1⟩ := h1
    subst ed
    obtain ⟨v, ev, rv1⟩ := rv.one
    subst ev
    refine ⟨Nat.le_of_ble_eq_true rfl, fun a ha => ⟨a, C, v, rfl, T, upd_same, fun pp dd hp hd => ⟨rfl, dd, _, ?_, upd_same, ?_, ?_⟩⟩⟩
    · have da : a ≠ dd := fun z => by
        subst z
        have pa : a ≠ pp := ne_of_none (upd_same (H := H1) (o := exo a C none)) hp
        rw [upd_ne pa, upd_same] at hd
        cases hd
      rw [upd_ne da, upd_same]
    · have dp : dd ≠ pp := fun z => by
        subst z
        rw [upd_same] at hd
        cases hd
      rw [upd_ne dp] at hd
      have da : dd ≠ a := fun z => by
        subst z
        rw [upd_same] at hd
        cases hd
      rw [upd_ne da] at hd
      exact hd
    · rw [hend ha hp hd]
      have pa : pp ≠ a := fun z => by
        subst z
        rw [upd_same] at hp
        cases hp
      rw [upd_ne pa] at hp
      have dp : dd ≠ pp := fun z => by
        subst z
        rw [upd_same] at hd
        cases hd
      rw [upd_ne dp] at hd
      have da : dd ≠ a := fun z => by
        subst z
        rw [upd_same] at hd
        cases hd
      rw [upd_ne da] at hd
      obtain ⟨R2, l2⟩ := R1.new hp (.tup [.str x, v])
      have hd2 : upd H1 pp (.tup [.str x, v]) dd = none := by rw [upd_ne dp]; exact hd
      obtain ⟨R3, l3⟩ := R2.new hd2 (.xd [(f, v), ("tag", .str x)])
      refine q.ex _ (er x f d) τ c1 σ _ _ _ (l1.trans (l2.trans l3)) R3 (rs.mono (l1.trans (l2.trans l3))) ⟨C, dd, [(f, v), ("tag", .str x)], hm, rfl, rfl, upd_same, rfl, ?_⟩ h1
      exact ⟨v, [.str x], rfl, rv1.mono (l2.trans l3), .str x, [], rfl, rfl, rfl⟩
end
end G

/-! GLam: lambdas made: without parameters, or with one that has a whole number as default. -/
namespace G
open PySem PySem.Spec L2 PyProof.Rows
open Evl (Ex)
/-- a function object of a lambda -/
abbrev lamFd (t : LamT) (cl : List (Str × Addr)) (pm : Value) (cv ctv dV : Value) : FuncData := { PySem.W.kla_fn "<lambda>" t.q t.params t.body t.scope cl pm cv ctv with defaults := dV }
section
variable {M : Model} {A : Around} {E : Value → Shared → Prop} {s : Shared} {t : LamT} {env : Env} {c P : Addr} {ps : Array Value} {pos : Pos} {firstLine : Nat} {mg : Str → Option Value} {clos : List (Str × Addr)} {Q : Value → Shared → Prop}
theorem tail_new {dV : Value} (hcl : closureFor t.scope env = pure clos) (hge0 : env.globals = mainGlobals) (hg : s.heap.Ns mainGlobals mg) (hcode : env.code = .ref c) (C : PySem.W.CodeHd s.heap c P) (hP : s.heap.get? P = some (PySem.W.tabObj ps)) (ht : TriplesOk ps.toList)
    (hnf : codeAmong pos ps.toList = none) (hgP : mainGlobals ≠ P) (hb : s.heap.BuiltinsAt mg P)
    (h : ∀ c' pm ctv h' tk, Heap.ExtBut P s.heap h' → s.heap.objs.size ≤ c' → c' < h'.objs.size → h'.CodeRec (.ref c') t.q → h'.get? P = some (PySem.W.tabObj (ps ++ #[rawInt pos.line, rawInt pos.col, .ref c'])) →
      Q (.ref h'.objs.size) { s with heap := h'.push { cls := .type "function", data := .func (lamFd t clos pm (.ref c') ctv dV) }, toks := tk }) :
    wpAny M A (makeTail "<lambda>" t.q t.params (.expr t.body) t.scope env dV .none none pos firstLine) Q E s := by
  obtain ⟨bm, ob, hbm, hne0, hneG, hneP, hbo, hcls, hdict, hdata⟩ := hb
  unfold makeTail
  rw [hcl, hge0]
  refine wpAny_bind (wpAny_pure ?_)
  cases clos with
  | nil =>
    simp only [List.isEmpty_nil, if_true]
    refine wpAny_bind (wpAny_pure ?_)
    refine wpAny_bind (wpAny_functionCodeX hcode (C.code hP ht) (C.tab hP) hnf fun c' h' tk hx hge hlt _ hrec htb _ => ?_)
    have hg' := hg.extBut hx hgP
    refine wpAny_bind (wpAny_builtinsFor hg' hbm hne0 (hx _ _ hneP hbo) hcls hdict hdata ?_)
    refine wpAny_bind (wpAny_nsGet hg' ?_)
    exact wpAny_bind (wpAny_pure (wpAny_newObj_type (h c' _ .none h' tk hx hge hlt hrec htb.2) (by size_fits)))
  | cons q r =>
    simp only [List.isEmpty_cons, Bool.false_eq_true, if_false]
    refine wpAny_bind (wpAny_newTextTuple ?_)
    have kp : ∀ (u : Obj) b o, s.heap.get? b = some o → (s.heap.push u).get? b = some o := fun u b o e => Heap.get?_push_of_some _ e
    refine wpAny_bind (wpAny_functionCodeX hcode ((C.keeps (kp _)).code (kp _ _ _ hP) ht) ((C.keeps (kp _)).tab (kp _ _ _ hP)) hnf fun c' h' tk hx hge hlt _ hrec htb _ => ?_)
    have hg' := (hg.push _).extBut hx hgP
    have hx' : Heap.ExtBut P s.heap h' := fun b o hb' e => hx b o hb' (kp _ _ _ e)
    have hge' : s.heap.objs.size ≤ c' := Nat.le_trans (by rw [Heap.size_push]; omega) hge
    refine wpAny_bind (wpAny_builtinsFor hg' hbm hne0 (hx' _ _ hneP hbo) hcls hdict hdata ?_)
    refine wpAny_bind (wpAny_nsGet hg' ?_)
    exact wpAny_bind (wpAny_pure (wpAny_newObj_type (h c' _ _ h' tk hx' hge' hlt hrec htb.2) (by size_fits)))
theorem tail_hit {dV cv : Value} (hcl : closureFor t.scope env = pure clos) (hge0 : env.globals = mainGlobals) (hg : s.heap.Ns mainGlobals mg) (hcode : env.code = .ref c) (C : PySem.W.CodeHd s.heap c P) (hP : s.heap.get? P = some (PySem.W.tabObj ps)) (ht : TriplesOk ps.toList)
    (hf : codeAmong pos ps.toList = some cv) (hb : s.heap.BuiltinsAt mg P)
    (h : ∀ (pm ctv : Value) (h' : Heap) (tk : Tok), (∀ b o, s.heap.get? b = some o → h'.get? b = some o) → Q (.ref h'.objs.size) { s with heap := h'.push { cls := .type "function", data := .func (lamFd t clos pm cv ctv dV) }, toks := tk }) :
    wpAny M A (makeTail "<lambda>" t.q t.params (.expr t.body) t.scope env dV .none none pos firstLine) Q E s := by
  obtain ⟨bm, ob, hbm, hne0, hneG, hneP, hbo, hcls, hdict, hdata⟩ := hb
  unfold makeTail
  rw [hcl, hge0]
  refine wpAny_bind (wpAny_pure ?_)
  cases clos with
  | nil =>
    simp only [List.isEmpty_nil, if_true]
    refine wpAny_bind (wpAny_pure (wpAny_bind (wpAny_functionCode_hit hcode (C.code hP ht) hf ?_)))
    refine wpAny_bind (wpAny_builtinsFor hg hbm hne0 hbo hcls hdict hdata (wpAny_bind (wpAny_nsGet hg ?_)))
    exact wpAny_bind (wpAny_pure (wpAny_newObj_type (h _ .none s.heap s.toks (fun _ _ e => e)) (by size_fits)))
  | cons q r =>
    simp only [List.isEmpty_cons, Bool.false_eq_true, if_false]
    have kp : ∀ (u : Obj) b o, s.heap.get? b = some o → (s.heap.push u).get? b = some o := fun u b o e => Heap.get?_push_of_some _ e
    refine wpAny_bind (wpAny_newTextTuple (wpAny_bind (wpAny_functionCode_hit hcode ((C.keeps (kp _)).code (kp _ _ _ hP) ht) hf ?_)))
    refine wpAny_bind (wpAny_builtinsFor (hg.push _) hbm hne0 (kp _ _ _ hbo) hcls hdict hdata (wpAny_bind (wpAny_nsGet (hg.push _) ?_)))
    exact wpAny_bind (wpAny_pure (wpAny_newObj_type (h _ _ _ s.toks (kp _)) (by size_fits)))
end
theorem deflt_none {t : LamT} {X : Cx} (h : defaultsOf t.params X.env = ([], [])) {M : Model} {A : Around} {E : Value → Shared → Prop} {s : Shared} {pos : Pos} {Q : Value → Shared → Prop}
    (q : wpAny M A (makeTail "<lambda>" (X.env.qual ++ "<lambda>") t.params (.expr t.body) t.scope X.env .none .none none pos pos.line) Q E s) : wpAny M A (eval (.Lambda t.params t.body t.scope pos) X.env) Q E s := by
  refine PySem.W.kla_eval h ?_
  rw [makeFunction_eq]
  simp only [List.zip_nil_right, List.filterMap_nil, List.isEmpty_nil, if_true, pure_bind]
  exact q
theorem deflt_one {t : LamT} {X : Cx} {i : Int} {j : Nat} {pc : Pos} (h : defaultsOf t.params X.env = ([eval (.Constant (.int i) j pc) X.env], [])) {M : Model} {A : Around} {E : Value → Shared → Prop} {s : Shared} {pos : Pos} {Q : Value → Shared → Prop}
    (q : wpAny M A (eval (.Constant (.int i) j pc) X.env) (fun v s1 => wpAny M A (makeTail "<lambda>" (X.env.qual ++ "<lambda>") t.params (.expr t.body) t.scope X.env (.ref s1.heap.objs.size) .none none pos pos.line) Q E { s1 with heap := s1.heap.push { cls := .type "tuple", data := .seq [v].toArray } }) E s) :
    wpAny M A (eval (.Lambda t.params t.body t.scope pos) X.env) Q E s := by
  rw [arm_eval_Lambda, h]
  show wpAny M A (do let dv ← evalAll [eval (.Constant (.int i) j pc) X.env]; let kdv ← holding dv (evalAllOpt []); makeFunction "<lambda>" (X.env.qual ++ "<lambda>") t.params (.expr t.body) t.scope X.env dv kdv [] pos pos.line) Q E s
  refine wpAny_bind (wpAny_bind (wpAny_mono q (fun v s1 q1 => wpAny_bind (wpAny_holding (wpAny_pure (wpAny_pure (wpAny_bind (wpAny_holding (wpAny_pure ?_))))))) fun _ _ z => z))
  rw [makeFunction_eq]
  simp only [List.zip_nil_right, List.filterMap_nil, List.isEmpty_nil, List.isEmpty_cons, Bool.false_eq_true, if_true, if_false, pure_bind]
  exact wpAny_bind (wpAny_newTextTuple q1)
/-- behind a lambda's making -/
structure NewLam (B H H1 : Hp) (P : Addr) (t : LamT) (cl : List (Str × Addr)) (f c' : Addr) (dV : Value) : Prop where
  ext : ∀ b o, H b = some o → b ≠ P → H1 b = some o
  fn : H f = none
  ne : f ≠ c'
  ff : H1 f = some (LamO f c' t cl dV)
  cn : H c' = none ∨ B c' = some (LamX.CodeO c' t.q)
  cc : H1 c' = some (LamX.CodeO c' t.q)
  tab : ∃ ps : Array Value, H1 P = some (.tbl ps) ∧ TriplesOk ps.toList ∧ ∀ (pos : Pos) (cv : Value), codeAmong pos ps.toList = some cv → ∃ c, cv = .ref c ∧ (B c = some (LamX.CodeO c t.q) ∨ c = c')
theorem lamO_ok {Pr : Program} {w : World} {H : Hp} {h : Heap} {f c' : Addr} {t : LamT} {cl : List (Str × Addr)} {pm ctv dV : Value} (e : h.get? f = some { cls := .type "function", data := .func (lamFd t cl pm (.ref c') ctv dV) }) : ObjOk Pr w H h f (LamO f c' t cl dV) :=
  ⟨⟨pm, ctv, e⟩, ⟨_, e⟩, fun h1 h2 ⟨pm, ctv, z⟩ k => ⟨pm, ctv, k _ z⟩⟩
theorem codeO_ext {c : Addr} {q : Str} (ps : Array Value) : LamX.CodeO c q ≠ .tbl ps := LamX.codeO_ne ps
section
variable {X : Cx} {pins : List (Addr × Obj)} {σ : L2.St} {B H : Hp} {s : Shared} {c P : Addr} {t : LamT} {dV : Value} {pos : Pos} {firstLine : Nat} {E : Value → Shared → Prop} {Q : Value → Shared → Prop} {A : Around}
theorem lam_tail (I : Inv X pins σ H s) (TB : LamX.TabB X.base X.mg c P) (hcode : X.env.code = .ref c) (hq : t.q = X.env.qual ++ "<lambda>") (hT : TabB' B H P t.q) (hB : Ex B H) (hfree : ∀ y ∈ t.scope.names, y.2 = .free → ∃ c, X.env.cells.lookup y.1 = some c)
    (h : ∀ f c' H1 s', Inv X pins σ H1 s' → NewLam B H H1 P t (cloFrom X.env.cells t.scope.names []) f c' dV → Q (.ref f) s') :
    wpAny (model X.prog X.w) A (makeTail "<lambda>" (X.env.qual ++ "<lambda>") t.params (.expr t.body) t.scope X.env dV .none none pos firstLine) Q E s := by
  obtain ⟨ps, hP, ht, ha⟩ := hT
  have bP : s.heap.BuiltinsAt X.mg P := TB.bm.keeps I.bk
  have hP' : s.heap.get? P = some { cls := .none, data := .fields ps } := I.hok P _ hP
  rw [← hq]
  cases hc : codeAmong pos ps.toList with
  | none =>
    refine tail_new (mg := X.mg) (c := c) (P := P) (ps := ps) (closure_ok hfree) I.ok.glob (I.mod.glob.keeps I.bk) hcode (TB.code.keeps I.bk) hP' ht hc TB.gP bP fun c' pm ctv h' tk hx hge hlt hrec htb => ?_
    obtain ⟨c2, oc, vs, tt, e2, hoc, hd, hv⟩ := hrec
    cases e2
    have nC : H c' = none := I.hok.fresh hge
    have hsz : s.heap.objs.size ≤ h'.objs.size := Nat.le_trans hge (Nat.le_of_lt hlt)
    have nF : H h'.objs.size = none := I.hok.fresh hsz
    have nPc : P ≠ c' := ne_of_none hP nC
    have nfP : h'.objs.size ≠ P := Nat.ne_of_gt (Nat.lt_of_lt_of_le (Heap.lt_size hP') hsz)
    have nfC : h'.objs.size ≠ c' := Nat.ne_of_gt hlt
    have I1 := LamX.inv_table (q := t.q) (t' := tk) (more := #[rawInt pos.line, rawInt pos.col, .ref c']) (h' := h') I hP (fun b o hb e => hx b o hb e) htb hge ⟨oc, vs, tt, hoc, hd, hv⟩
    have I2 : Inv X pins σ (upd (upd (upd H P (.tbl (ps ++ #[rawInt pos.line, rawInt pos.col, .ref c']))) c' (LamX.CodeO c' t.q)) h'.objs.size (LamO h'.objs.size c' t (cloFrom X.env.cells t.scope.names []) dV)) { s with heap := h'.push { cls := .type "function", data := .func (lamFd t (cloFrom X.env.cells t.scope.names []) pm (.ref c') ctv dV) }, toks := tk } :=
      I1.laid (t' := tk) (a := h'.objs.size) (h' := h'.push { cls := .type "function", data := .func (lamFd t (cloFrom X.env.cells t.scope.names []) pm (.ref c') ctv dV) }) (fun b o e => Heap.get?_push_of_some _ e) (Nat.le_refl _) (lamO_ok (Heap.get?_push_size _ rfl))
    have eL : (ps ++ #[rawInt pos.line, rawInt pos.col, Value.ref c']).toList = ps.toList ++ [rawInt pos.line, rawInt pos.col, .ref c'] := by simp
    refine h _ c' _ _ I2 ⟨fun b o e hb => ?_, nF, nfC, upd_same, .inl nC, ?_, _, ?_, by rw [eL]; exact PySem.TriplesOk_snoc _ _ _ _ ht, fun p' cv hcv => ?_⟩
    · rw [upd_ne (ne_of_none e nF), upd_ne (ne_of_none e nC), upd_ne hb]
      exact e
    · rw [upd_ne (Ne.symm nfC), upd_same]
    · rw [upd_ne (Ne.symm nfP), upd_ne nPc, upd_same]
    · rw [eL] at hcv
      rcases LamX.among_app _ ht hcv with z | z
      · obtain ⟨c0, e1, e2⟩ := ha p' cv z
        exact ⟨c0, e1, .inl e2⟩
      · exact ⟨c', z, .inr rfl⟩
  | some cv =>
    obtain ⟨c', e, hco⟩ := ha pos cv hc
    subst e
    refine tail_hit (mg := X.mg) (c := c) (P := P) (ps := ps) (closure_ok hfree) I.ok.glob (I.mod.glob.keeps I.bk) hcode (TB.code.keeps I.bk) hP' ht hc bP fun pm ctv h' tk hx => ?_
    have I1 : Inv X pins σ H { s with heap := h', toks := tk } := I.kept hx
    have nF : H h'.objs.size = none := I1.hok.fresh (Nat.le_refl _)
    have I2 : Inv X pins σ (upd H h'.objs.size (LamO h'.objs.size c' t (cloFrom X.env.cells t.scope.names []) dV)) { s with heap := h'.push { cls := .type "function", data := .func (lamFd t (cloFrom X.env.cells t.scope.names []) pm (.ref c') ctv dV) }, toks := tk } :=
      I1.laid (t' := tk) (a := h'.objs.size) (h' := h'.push { cls := .type "function", data := .func (lamFd t (cloFrom X.env.cells t.scope.names []) pm (.ref c') ctv dV) }) (fun b o e => Heap.get?_push_of_some _ e) (Nat.le_refl _) (lamO_ok (Heap.get?_push_size _ rfl))
    have hcc := hB _ _ hco
    exact h _ c' _ _ I2 ⟨fun b o e hb => by rw [upd_ne (ne_of_none e nF)]; exact e, nF, Ne.symm (ne_of_none hcc nF), upd_same, .inr hco, by rw [upd_ne (ne_of_none hcc nF)]; exact hcc, ps, by rw [upd_ne (ne_of_none hP nF)]; exact hP, ht, fun p' cv hcv => let ⟨c0, e1, e2⟩ := ha p' cv hcv; ⟨c0, e1, .inl e2⟩⟩
/-- the defaults, as they lie -/
def DflAt (H Ha : Hp) (t : LamT) (dV : Value) : Prop := (Ha = H ∧ t.dfl = [] ∧ dV = .none) ∨ ∃ p, H p = none ∧ Ha = upd H p (.tup (t.dfl.map V.int)) ∧ t.dfl ≠ [] ∧ dV = .ref p
theorem lam_mk (I : Inv X pins σ H s) (TB : LamX.TabB X.base X.mg c P) (hcode : X.env.code = .ref c) (hq : t.q = X.env.qual ++ "<lambda>") (hT : TabB' B H P t.q) (hB : Ex B H) (hfree : ∀ y ∈ t.scope.names, y.2 = .free → ∃ c, X.env.cells.lookup y.1 = some c)
    (hdef : (t.dfl = [] ∧ defaultsOf t.params X.env = ([], [])) ∨ ∃ i j pc, t.dfl = [i] ∧ defaultsOf t.params X.env = ([eval (.Constant (.int i) j pc) X.env], []))
    (h : ∀ f c' dV Ha H1 s', Inv X pins σ H1 s' → DflAt H Ha t dV → NewLam B Ha H1 P t (cloFrom X.env.cells t.scope.names []) f c' dV → Q (.ref f) s') :
    wpAny (model X.prog X.w) X.A (eval (.Lambda t.params t.body t.scope pos) X.env) Q X.xe s := by
  rcases hdef with ⟨e1, e2⟩ | ⟨i, j, pc, e1, e2⟩
  · exact deflt_none e2 (lam_tail I TB hcode hq hT hB hfree fun f c' H1 s' I1 n => h f c' _ H H1 s' I1 (.inl ⟨rfl, e1, rfl⟩) n)
  · refine deflt_one e2 (thn ((pe_int (X := X) (i := i) (j := j) (pos := pc)).run pins s σ H (fun v H' => v = .int i ∧ H' = H) I ⟨rfl, rfl⟩) fun u s1 ⟨v, H', I1, rv, ev, eH⟩ => ?_)
    subst ev eH
    have hp : H' s1.heap.objs.size = none := I1.hok.fresh (Nat.le_refl _)
    have I2 : Inv X pins σ (upd H' s1.heap.objs.size (.tup [.int i])) { s1 with heap := s1.heap.push { cls := .type "tuple", data := .seq [u].toArray } } :=
      I1.laid (t' := s1.toks) (a := s1.heap.objs.size) (fun b o e => Heap.get?_push_of_some _ e) (Nat.le_refl _) ⟨by show 1 ≤ sizeLine; rw [sizeLine_eq]; decide, [u], .cons rv .nil, IsTup.new s1.heap _⟩
    obtain ⟨ps, hP, ht, ha⟩ := hT
    refine lam_tail (dV := .ref s1.heap.objs.size) I2 TB hcode hq ⟨ps, by rw [upd_ne (ne_of_none hP hp)]; exact hP, ht, ha⟩ (fun b o e => by rw [upd_ne (ne_of_none (hB b o e) hp)]; exact hB b o e) hfree fun f c' H1 s' I3 n => ?_
    refine h f c' _ (upd H' s1.heap.objs.size (.tup [.int i])) H1 s' I3 (.inr ⟨_, hp, by rw [e1]; rfl, by rw [e1]; exact List.cons_ne_nil _ _, rfl⟩) n
end
end G

/-! GLam2: a lambda as a value. -/
namespace G
open PySem PySem.Spec L2 PyProof.Rows
open Evl (Ex)
theorem lamO_ext {f c : Addr} {t : LamT} {cl : List (Str × Addr)} {dV : Value} (ps : Array Value) : LamO f c t cl dV ≠ .tbl ps := fun z => by
  have z' : HO.ext _ = HO.tbl ps := z
  cases z'
section
variable {K : PySem.W.Frag} {wd : Wd} {F H H1 : Hp} {cs : Cs} {P : Addr} {t : LamT} {cl : List (Str × Addr)} {f c' : Addr} {dV : Value}
def growB (B : Hp) (f c' : Addr) (t : LamT) (cl : List (Str × Addr)) (dV : Value) : Hp := fun b => if b = f then some (LamO f c' t cl dV) else if b = c' then some (LamX.CodeO c' t.q) else B b
theorem Rl.grow {B : Hp} (R : Rl K wd F cs H) (hBB : Ex B wd.B) (n : NewLam B H H1 P t cl f c' dV) (hP : (P, t.q) ∈ tabsOf K) (hu : ∀ p ∈ tabsOf K, p.1 = P → p.2 = t.q) :
    ∃ wd', wd.le wd' ∧ Rl K wd' F cs H1 ∧ wd'.B f = some (LamO f c' t cl dV) ∧ wd'.B c' = some (LamX.CodeO c' t.q) := by
  obtain ⟨ps0, hP0, _, _⟩ := R.tab _ hP
  have cn : H c' = none ∨ wd.B c' = some (LamX.CodeO c' t.q) := n.cn.imp id fun e => hBB _ _ e
  have fc : f ≠ c' := n.ne
  have ex : Ex wd.B (growB wd.B f c' t cl dV) := fun b o e => by
    unfold growB
    have hb : b ≠ f := ne_of_none (R.b b o e) n.fn
    rw [if_neg hb]
    by_cases hc : b = c'
    · rw [if_pos hc]
      subst hc
      rcases cn with e1 | e1
      · have e2 := R.b _ _ e
        rw [e1] at e2
        cases e2
      · rw [e1] at e
        exact e
    · rw [if_neg hc]
      exact e
  have le : wd.le ⟨growB wd.B f c' t cl dV, wd.r, wd.k⟩ := ⟨ex, fun _ _ h => h⟩
  have bf : growB wd.B f c' t cl dV f = some (LamO f c' t cl dV) := if_pos rfl
  have bc : growB wd.B f c' t cl dV c' = some (LamX.CodeO c' t.q) := (if_neg (Ne.symm fc)).trans (if_pos rfl)
  have inv : ∀ b o, growB wd.B f c' t cl dV b = some o → (b = f ∧ o = LamO f c' t cl dV) ∨ (b = c' ∧ o = LamX.CodeO c' t.q) ∨ wd.B b = some o := fun b o e => by
    unfold growB at e
    by_cases h1 : b = f
    · rw [if_pos h1] at e
      exact .inl ⟨h1, (Option.some.inj e).symm⟩
    · rw [if_neg h1] at e
      by_cases h2 : b = c'
      · rw [if_pos h2] at e
        exact .inr (.inl ⟨h2, (Option.some.inj e).symm⟩)
      · rw [if_neg h2] at e
        exact .inr (.inr e)
  have ext : ∀ b o, H b = some o → (∀ q, o ≠ .tbl q) → H1 b = some o := fun b o e nt => n.ext b o e (R.notbl hP0 e nt)
  refine ⟨_, le, ⟨?_, ?_, ?_, R.inj, ?_, ?_, R.top, R.rf, R.fe, ?_, ?_⟩, bf, bc⟩
  · intro b o e
    rcases inv b o e with ⟨h1, h2⟩ | ⟨h1, h2⟩ | h
    · rw [h1, h2]; exact n.ff
    · rw [h1, h2]; exact n.cc
    · exact ext b o (R.b b o h) fun q z => R.bt b q (by rw [h, z])
  · intro b o e
    exact ext b o (R.f b o e) (R.fe b o e).1
  · intro b o e
    rcases inv b o e with ⟨h1, h2⟩ | ⟨h1, h2⟩ | h
    · rw [h1]; exact Evl.fresh_back R.f n.fn
    · rw [h1]
      rcases cn with e1 | e1
      · exact Evl.fresh_back R.f e1
      · exact R.bf _ _ e1
    · exact R.bf b o h
  · intro m o e
    obtain ⟨a, u, e1, e2, e3, e4, e5⟩ := R.cell m o e
    refine ⟨a, u, e1, ?_, e3, ext a u e4 e5.notbl, e5.mono le⟩
    show growB wd.B f c' t cl dV a = none
    unfold growB
    rw [if_neg (ne_of_none e4 n.fn)]
    have hc : a ≠ c' := fun z => by
      subst z
      rcases cn with q | q
      · rw [q] at e4; cases e4
      · rw [q] at e2; cases e2
    rw [if_neg hc]
    exact e2
  · intro m a e
    obtain ⟨o, ho, hn⟩ := R.ran m a e
    exact ⟨o, ext a o ho hn, hn⟩
  · intro p hp
    by_cases h : p.1 = P
    · obtain ⟨ps, h1, h2, h3⟩ := n.tab
      rw [hu p hp h, h]
      refine ⟨ps, h1, h2, fun pos cv hc => ?_⟩
      obtain ⟨c2, e1, e2⟩ := h3 pos cv hc
      rcases e2 with e2 | e2
      · exact ⟨c2, e1, ex _ _ (hBB _ _ e2)⟩
      · exact ⟨c2, e1, by rw [e2]; exact bc⟩
    · obtain ⟨ps, h1, h2, h3⟩ := R.tab p hp
      exact ⟨ps, n.ext _ _ h1 h, h2, fun pos cv hc => let ⟨c2, e1, e2⟩ := h3 pos cv hc; ⟨c2, e1, ex _ _ e2⟩⟩
  · intro b q e
    rcases inv b _ e with ⟨h1, h2⟩ | ⟨h1, h2⟩ | h
    · exact lamO_ext q h2.symm
    · exact codeO_ext q h2.symm
    · exact R.bt b q h
end
/-- what the context knows of its own lambdas' table -/
structure LamC (X : Cx) (q : Str) : Prop where
  ex : ∃ c P, LamX.TabB X.base X.mg c P ∧ X.env.code = .ref c ∧ (P, q) ∈ tabsOf X.K ∧ ∀ p ∈ tabsOf X.K, p.1 = P → p.2 = q
  qn : q = X.env.qual ++ "<lambda>"
def tLamV (K : PySem.W.Frag) (t : LamT) (P : Addr) (cells : List (Str × Addr)) : TE := fun σ H Q => ∃ B, Ex B H ∧ TabB' B H P t.q ∧ ∀ f c' dV Ha H1, DflAt H Ha t dV → NewLam B Ha H1 P t (cloFrom cells t.scope.names []) f c' dV → Q (.ref f) H1
section
variable {X : Cx} {W : WX} {t : LamT} {pos : Pos}
theorem j_lam (j : Nat) (L : LamC X t.q) (hfree : X.Ok → ∀ y ∈ t.scope.names, y.2 = .free → ∃ c, X.env.cells.lookup y.1 = some c)
    (hdef : (t.dfl = [] ∧ defaultsOf t.params X.env = ([], [])) ∨ ∃ i j pc, t.dfl = [i] ∧ defaultsOf t.params X.env = ([eval (.Constant (.int i) j pc) X.env], [])) : JE X W (.Lambda t.params t.body t.scope pos) (.c (.clo j t X.env.cells)) := by
  obtain ⟨c, P, TB, hcode, hP, hu⟩ := L.ex
  refine ⟨tLamV X.K t P X.env.cells, ⟨fun pins s σ H Q I ⟨B, hB, hT, h⟩ => ?_⟩, fun wd F τ cs σ H PP PX Q R rs h q x => ?_⟩
  · exact lam_mk I TB hcode L.qn hT hB (hfree I.ok) hdef fun f c' dV Ha H1 s' I1 e1 n => ⟨.ref f, H1, I1, rfl, h f c' dV Ha H1 e1 n⟩
  · have h : PP (.clo j t X.env.cells) cs := h
    refine ⟨wd.B, R.b, R.tab _ hP, fun f c' dV Ha H1 e1 n => ?_⟩
    rcases e1 with ⟨e1, e2, e3⟩ | ⟨p, hp, e1, e2, e3⟩
    · subst e1
      obtain ⟨wd', le, R', b1, b2⟩ := R.grow (Ex.refl _) n hP hu
      exact q wd' (.clo j t X.env.cells) cs _ _ le R' ⟨f, c', dV, rfl, b1, b2, .inl ⟨e2, e3⟩⟩ h
    · subst e1
      obtain ⟨R1, l1⟩ := R.new hp (.tup (t.dfl.map V.int))
      obtain ⟨wd', le, R', b1, b2⟩ := R1.grow l1.B n hP hu
      exact q wd' (.clo j t X.env.cells) cs _ _ (l1.trans le) R' ⟨f, c', dV, rfl, b1, b2, .inr ⟨e2, p, e3, le.B _ _ upd_same⟩⟩ h
end
end G

/-! GLam3: a lambda called. -/
namespace G
open PySem PySem.Spec L2 PyProof.Rows
open Evl (Ex)
/-- the lambda's names: captured ones, globals, a parameter that no slot bears -/
structure LamN (N : List Str) (sc scope : Scope) : Prop where
  kind : scope.kind = .function
  co : scope.isCoroutine = false
  gen : scope.isGenerator = false
  own : ∀ y ∈ scope.names, y.2 ≠ .cell ∧ (y.2 = .local → y.1 ∉ N)
  free : ∀ y ∈ scope.names, y.2 = .free → sc.names.lookup y.1 = some .cell ∨ sc.names.lookup y.1 = some .free
def lamNB (N : List Str) (sc scope : Scope) : Bool :=
  decide (scope.kind = .function) && (!scope.isCoroutine && (!scope.isGenerator && scope.names.all fun y => !decide (y.2 = .cell) && ((!decide (y.2 = .local) || !decide (y.1 ∈ N)) && (!decide (y.2 = .free) || (decide (sc.names.lookup y.1 = some .cell) || decide (sc.names.lookup y.1 = some .free))))))
theorem lamN_by {N : List Str} {sc scope : Scope} (h : lamNB N sc scope = true) : LamN N sc scope := by
  unfold lamNB at h
  simp only [Bool.and_eq_true, Bool.or_eq_true, Bool.not_eq_true', decide_eq_true_eq, decide_eq_false_iff_not, List.all_eq_true] at h
  obtain ⟨h1, h2, h3, h4⟩ := h
  refine ⟨h1, h2, h3, fun y hy => ⟨(h4 y hy).1, fun e => ?_⟩, fun y hy e => ?_⟩
  · rcases (h4 y hy).2.1 with z | z
    · exact absurd e z
    · exact z
  · rcases (h4 y hy).2.2 with z | z
    · exact absurd e z
    · exact z
theorem LamN.has {X : Cx} {scope : Scope} (L : LamN X.N X.env.scope scope) (ok : X.Ok) : ∀ y ∈ scope.names, y.2 = .free → ∃ c, X.env.cells.lookup y.1 = some c := fun y hy e => by
  rcases L.free y hy e with k | k
  · exact ok.has _ (.inl k)
  · exact ok.has _ (.inr k)
/-- the context of a lambda's body, entered at s from the frames outer -/
def lamX (X : Cx) (A : Around) (outer : List Env) (s : Shared) (H : Hp) (E : XK) (scope : Scope) (f c' : Addr) : Cx where
  prog := X.prog
  w := X.w
  K := X.K
  mg := X.mg
  base := X.base
  A := A.deeper (LamX.lamEnv X scope s.heap.objs.size f c')
  N := X.N
  s_0 := s
  H_0 := H
  env := LamX.lamEnv X scope s.heap.objs.size f c'
  outer := outer
  stack := LamX.lamEnv X scope s.heap.objs.size f c' :: outer
  ex := []
  fn := fun _ => false
  calm := true
  pn := []
  xe := fun e s' => wpAny (model X.prog X.w) (A.deeper (LamX.lamEnv X scope s.heap.objs.size f c')) (leaving (LamX.lamEnv X scope s.heap.objs.size f c') e) (fun _ s'' => L2N.CX X.prog X.w outer H s E e s'') (fun e' s'' => L2N.CX X.prog X.w outer H s E e' s'') s'
section
variable {X : Cx} {pins : List (Addr × Obj)} {σ : L2.St} {H HZ : Hp} {s s1 : Shared}
theorem lam_enter {A : Around} {outer : List Env} {E : XK} {scope : Scope} {f c' : Addr} {h₁ : Heap} {tk : Nat} {m : Str → Option Value} (I : Inv X pins σ H s) (L : LamN X.N X.env.scope scope) (e0 : Env0 X.prog X.w X.K X.mg X.base A outer s1 HZ) (hd : A.handled = none)
    {ex : List Addr} (un : Un (frs X.stack) ex H HZ s.heap s1.heap) (hex : ∀ y c, X.env.cells.lookup y = some c → c ∉ ex) (hns : h₁.Ns s1.heap.objs.size m) (kp : ∀ b o, s1.heap.get? b = some o → h₁.get? b = some o) :
    Inv (lamX X A outer s1 HZ E scope f c') [] σ HZ { s1 with heap := h₁, toks := tk } := by
  have hfree := L.has I.ok
  have cm : ∀ {y c}, (cloFrom X.env.cells scope.names []).lookup y = some c → X.env.cells.lookup y = some c := fun {y c} e => by
    rcases cloFrom_mem (PySem.mem_of_lookup e) with hm | ⟨h1, h2⟩
    · cases hm
    · obtain ⟨c1, hc⟩ := hfree _ h1 rfl
      have hc : X.env.cells.lookup y = some c1 := hc
      have e2 : c = c1 := by rw [h2, hc] <;> rfl
      rw [e2]
      exact hc
  have look : ∀ {y}, scope.names.lookup y = some .free → ∃ c, (cloFrom X.env.cells scope.names []).lookup y = some c := fun {y} hl =>
    mem_lookup (cloFrom_has (cells := X.env.cells) (acc := []) (PySem.mem_of_lookup hl))
  have cellK : ∀ {c : Addr} {v : Option Value}, c ∉ ex → H c = none → s.heap.IsCell c v → h₁.IsCell c v := fun {c v} nx n ⟨o, ho, hd⟩ => by
    obtain ⟨sl, q⟩ := un.any ho n nx
    exact ⟨_, kp _ _ q, hd⟩
  have noA : ∀ b : Addr, b ∉ (lamX X A outer s1 HZ E scope f c').ex := fun b z => absurd (show b ∈ ([] : List Addr) from z) (by simp)
  have okL : (lamX X A outer s1 HZ E scope f c').Ok := by
    constructor
    · exact e0.mod
    · exact L.kind
    · rfl
    · rfl
    · exact Nat.le_refl _
    · exact fun y z c e1 e2 => I.ok.inj y z c (cm e1) (cm e2)
    · intro y hy
      have hy : scope.names.lookup y = some .cell ∨ scope.names.lookup y = some .free := hy
      rcases hy with hy | hy
      · exact absurd rfl (L.own _ (PySem.mem_of_lookup hy)).1
      · exact look hy
    · intro y c z _
      have z : false = true := z
      cases z
    · exact fun _ => hd
    · exact Around.frames_deeper e0.frames
    · exact .inr ⟨rfl, rfl⟩
    · exact fun b z => absurd z (noA b)
    · exact e0.bs
    · exact e0.bsz
    · exact fun b _ _ => noA b
    · exact fun b z => absurd z (noA b)
    · exact e0.funs
    · exact e0.frf
  refine ⟨okL, rfl, e0.bare, Un.kept kp, ⟨_, hns, fun i y v e1 e2 e3 => ?_⟩, fun y c e => ?_, e0.hok.fresh (Nat.le_refl _), fun y c e => ?_, fun q hq => absurd (show q ∈ ([] : List (Addr × Obj)) ++ [] from hq) (by simp), e0.hok.kept kp, I.len⟩
  · have e3 : Vis scope y := e3
    rcases e3 with k | k | k
    · exact absurd (List.mem_of_getElem? e1) ((L.own _ (PySem.mem_of_lookup k)).2 rfl)
    · exact absurd rfl (L.own _ (PySem.mem_of_lookup k)).1
    · obtain ⟨m, hn, hl⟩ := I.loc
      have hvis : Vis X.env.scope y := (L.free _ (PySem.mem_of_lookup k) rfl).elim (fun k => .inr (.inl k)) (fun k => .inr (.inr k))
      obtain ⟨w', r, q⟩ := hl i y v e1 e2 hvis
      obtain ⟨c2, h2⟩ := look k
      refine ⟨w', r, .inr ⟨.inr k, c2, h2, ?_⟩⟩
      have c1 := cm h2
      rcases q with ⟨k', _⟩ | ⟨_, c3, e', z⟩
      · have k' : X.env.scope.names.lookup y = some .local := k'
        rcases L.free _ (PySem.mem_of_lookup k) rfl with k2 | k2 <;> rw [show X.env.scope.names.lookup y = _ from k2] at k' <;> cases k'
      · rw [c1] at e'
        cases e'
        exact cellK (hex y _ c1) (I.freeC y _ c1) z
  · obtain ⟨w', z⟩ := I.cell y c (cm e)
    exact ⟨w', cellK (hex y c (cm e)) (I.freeC y c (cm e)) z⟩
  · obtain ⟨v, o, ho, hd⟩ := I.cell y c (cm e)
    exact un.free c o ho (I.freeC y c (cm e)) (hex y c (cm e))
end
/-- how the lambda's call binds -/
def LamBind (t : LamT) : Prop := (t.dfl = [] ∧ ∀ cl pm cv ctv, bindArgs (lamFd t cl pm cv ctv .none) ⟨[], []⟩ = pure []) ∨
  ∃ i a, t.dfl = [i] ∧ t.scope.names.lookup a = some .local ∧ ∀ cl pm cv ctv p, ∃ k, bindArgs (lamFd t cl pm cv ctv (.ref p)) ⟨[], []⟩ = seqItems? (.ref p) >>= k ∧ ∀ v, k (some #[v]) = pure [(a, v)]
/-- the lambda at f, as it lies -/
def LamAt (H : Hp) (t : LamT) (cl : List (Str × Addr)) (f : Addr) : Prop := ∃ (c : Addr) (dV : Value), H f = some (LamO f c t cl dV) ∧ H c = some (LamX.CodeO c t.q) ∧ ((t.dfl = [] ∧ dV = .none) ∨ (t.dfl ≠ [] ∧ ∃ p, dV = .ref p ∧ H p = some (.tup (t.dfl.map V.int))))
/-- f may be called without arguments at any state behind (s, H): tl its reading there -/
def LamRun (P : Program) (w : World) (K : PySem.W.Frag) (mg : Str → Option Value) (base : Heap) (k : Nat) (fs : List Addr) (f : Addr) (s : Shared) (H : Hp) (tl : XK → Hp → VK → Prop) : Prop :=
  ∀ (A : Around) (stk : List Env) (s1 : Shared) (H1 : Hp) (Q : VK) (E : XK), Room (k + 1) A → Env0 P w K mg base A stk s1 H1 → Un fs [] H H1 s.heap s1.heap → tl E H1 Q → codeAny (model P w) A (.call (.ref f) ⟨[], []⟩) (CR (L2N.CX P w) stk P w H1 s1 Q E) s1
section
variable {X : Cx} {pins : List (Addr × Obj)} {σ : L2.St} {H : Hp} {s : Shared} {t : LamT} {k : Nat} {te : XK → TE}
theorem lam_runX {ex : List Addr} (hex : ∀ y c, X.env.cells.lookup y = some c → c ∉ ex) (I : Inv X pins σ H s) (L : LamN X.N X.env.scope t.scope) (hb : LamBind t) (hq : t.q = X.env.qual ++ "<lambda>")
    (hbody : ∀ (A : Around) (outer : List Env) (s : Shared) (H : Hp) (E : XK) (f c' : Addr), Room k (A.deeper (LamX.lamEnv X t.scope s.heap.objs.size f c')) → A.handled = none → PE (lamX X A outer s H E t.scope f c') t.body (te E)) (f : Addr) :
    ∀ (A : Around) (stk : List Env) (s1 : Shared) (H1 : Hp) (Q : VK) (E : XK), Room (k + 1) A → Env0 X.prog X.w X.K X.mg X.base A stk s1 H1 → Un (frs X.stack) ex H H1 s.heap s1.heap → (LamAt H1 t (cloFrom X.env.cells t.scope.names []) f ∧ te E σ H1 Q) → codeAny (model X.prog X.w) A (.call (.ref f) ⟨[], []⟩) (CR (L2N.CX X.prog X.w) stk X.prog X.w H1 s1 Q E) s1 := by
  intro A stk s1 H1 Q E hr e0 un ⟨⟨c', dV, hf, hc, hdv⟩, hte⟩
  obtain ⟨⟨pm, ctv, of1⟩, _, _⟩ := e0.hok f _ hf
  obtain ⟨⟨oc, vs, tt, hoc, hdc, hvc⟩, _, _⟩ := e0.hok c' _ hc
  have KX : X.K.In s1.heap := e0.mod.kin.keeps fun b o e => (e0.bs b o e).1
  have lim : s1.heap.NoLimit := e0.mod.nolimit.keeps fun b o e => (e0.bs b o e).1
  refine PySem.W.kla_callFunE hr.depth of1 rfl L.co L.gen rfl ⟨c', oc, vs, tt, rfl, hoc, hdc, hvc⟩ ?_
  have go : ∀ binds : List (Str × Value), (∀ x ∈ binds, t.scope.names.lookup x.1 = some .local) →
      wpAny (model X.prog X.w) A.in1 (newFunctionEnv t.scope mainGlobals (cloFrom X.env.cells t.scope.names []) binds (t.q ++ ".<locals>.") (some f) (.ref c') none builtinsNs)
        (fun env s₂ => s₂.heap.NoLimit ∧ codeAny (model X.prog X.w) A (.expr t.body env) (CR (L2N.CX X.prog X.w) stk X.prog X.w H1 s1 Q E) s₂) (fun e s' => CR (L2N.CX X.prog X.w) stk X.prog X.w H1 s1 Q E (.error e) s') s1 := by
    intro binds hl
    refine wpAny_newFunctionEnv (fun y hy => (L.own y hy).1) hl (fun h₁ hns hsb => ⟨lim.fresh _ hsb, ?_⟩) L.kind
    rw [hq]
    show codeAny _ _ (.expr t.body (LamX.lamEnv X t.scope s1.heap.objs.size f c')) _ _
    have kp : ∀ b o, s1.heap.get? b = some o → h₁.get? b = some o := fun b o e => hsb.extBut b o (Nat.ne_of_lt (Heap.lt_size e)) (Heap.get?_push_of_some _ e)
    have J := lam_enter (A := A) (outer := stk) (E := E) (f := f) (c' := c') (tk := s1.toks + binds.length) I L e0 hr.hd un hex hns kp
    refine PySem.W.kla_codeExpr (wpAny_mono ((hbody A stk s1 H1 E f c' (hr.deeper _) hr.hd).run [] _ σ H1 Q J hte) (fun v s' hq => ?_) fun e s' hq => hq)
    obtain ⟨w', H', J', rv, q⟩ := hq
    exact ⟨w', H', J'.os, J'.bare, J'.base, J'.hok, rv, q⟩
  rcases hb with ⟨d1, hb⟩ | ⟨i, a, d1, ha, hb⟩
  · have e : dV = .none := by
      rcases hdv with ⟨_, e⟩ | ⟨z, _⟩
      · exact e
      · exact absurd d1 z
    subst e
    rw [hb]
    exact wpAny_pure (go [] fun x hx => absurd hx (by simp))
  · obtain ⟨p, e, hp⟩ : ∃ p, dV = .ref p ∧ H1 p = some (.tup (t.dfl.map V.int)) := by
      rcases hdv with ⟨z, _⟩ | ⟨_, z⟩
      · rw [d1] at z
        cases z
      · exact z
    subst e
    obtain ⟨k', e1, e2⟩ := hb (cloFrom X.env.cells t.scope.names []) pm (.ref c') ctv p
    rw [e1]
    rw [d1] at hp
    obtain ⟨_, its, rv, o, ho, _, n, hd⟩ := e0.hok p _ hp
    have hits : ∃ v, its = [v] := by
      cases rv with
      | cons r1 r2 =>
        cases r2
        exact ⟨_, rfl⟩
    obtain ⟨v, ev⟩ := hits
    subst ev
    refine wpAny_bind (wpAny_seqItems ho hd ?_)
    rw [e2 v]
    exact wpAny_pure (go [(a, v)] fun x hx => by
      have : x = (a, v) := by simpa using hx
      rw [this]
      exact ha)
theorem lam_run (I : Inv X pins σ H s) (L : LamN X.N X.env.scope t.scope) (hb : LamBind t) (hq : t.q = X.env.qual ++ "<lambda>")
    (hbody : ∀ (A : Around) (outer : List Env) (s : Shared) (H : Hp) (E : XK) (f c' : Addr), Room k (A.deeper (LamX.lamEnv X t.scope s.heap.objs.size f c')) → A.handled = none → PE (lamX X A outer s H E t.scope f c') t.body (te E)) (f : Addr) :
    LamRun X.prog X.w X.K X.mg X.base k (frs X.stack) f s H fun E H1 Q => LamAt H1 t (cloFrom X.env.cells t.scope.names []) f ∧ te E σ H1 Q :=
  lam_runX (ex := []) (fun _ _ _ z => by cases z) I L hb hq hbody f
end
theorem Un.deep {fs : List Addr} {L : Addr} {H H1 H2 : Hp} {h h1 h2 : Heap} (a : Un fs [] H H1 h h1) (b : Un (L :: fs) [] H1 H2 h1 h2) (hL : h.get? L = none) : Un fs [] H H2 h h2 := by
  have nL : ∀ c o, h.get? c = some o → c ≠ L := fun c o e z => by
    rw [z, hL] at e
    cases e
  constructor
  · intro c o q n hc hx
    refine b.keep c o (a.keep c o q n hc hx) (a.free c o q n hx) (fun z => ?_) hx
    rcases List.mem_cons.mp z with z | z
    · exact nL c o q z
    · exact hc z
  · intro c o q n hc hx
    obtain ⟨sl, e1⟩ := a.slot c o q n hc hx
    obtain ⟨sl', e2⟩ := b.slot c _ e1 (a.free c o q n hx) (List.mem_cons_of_mem _ hc) hx
    exact ⟨sl', e2⟩
  · intro c o q n hx
    obtain ⟨o', e1⟩ := a.there c o q hx
    exact b.free c o' e1 (a.free c o q n hx) hx
  · intro c o q hx
    obtain ⟨o', e1⟩ := a.there c o q hx
    exact b.there c o' e1 hx
  · exact fun c xs q => b.tups c xs (a.tups c xs q)
  · exact fun c o u q => b.frzs c o u (a.frzs c o u q)
  · intro c ps q
    obtain ⟨m1, e1⟩ := a.tbls c ps q
    obtain ⟨m2, e2⟩ := b.tbls c _ e1
    exact ⟨m1 ++ m2, by rw [e2, Array.append_assoc]⟩
theorem LamRun.deep {P : Program} {w : World} {K : PySem.W.Frag} {mg : Str → Option Value} {base : Heap} {k : Nat} {fs : List Addr} {f L : Addr} {s s2 : Shared} {H H2 : Hp} {tl : XK → Hp → VK → Prop} (R : LamRun P w K mg base k fs f s H tl) (u : Un fs [] H H2 s.heap s2.heap) (hL : s.heap.get? L = none) : LamRun P w K mg base k (L :: fs) f s2 H2 tl :=
  fun A stk s1 H1 Q E hr e0 un q => R A stk s1 H1 Q E hr e0 (Un.deep u un hL) q
end G

/-! GFld: a caught error's tag and field; the def that tells the field. -/
namespace G
open PySem PySem.Spec L2 PyProof.Rows L2H
open Evl (Ex)
/-- the heap with new tuples -/
structure TupX (H H' : Hp) : Prop where
  ex : Ex H H'
  new : ∀ b o, H' b = some o → H b = some o ∨ (H b = none ∧ ∃ xs, o = .tup xs)
theorem TupX.refl (H : Hp) : TupX H H := ⟨Ex.refl H, fun b o e => .inl e⟩
theorem TupX.trans {a b c : Hp} (h : TupX a b) (k : TupX b c) : TupX a c := ⟨h.ex.trans k.ex, fun x o e => by
  rcases k.new x o e with z | ⟨z, w⟩
  · exact h.new x o z
  · refine .inr ⟨?_, w⟩
    cases q : a x with
    | none => rfl
    | some u =>
      have := h.ex x u q
      rw [z] at this
      cases this⟩
theorem TupX.one {H : Hp} {p : Addr} {xs : List V} (h : H p = none) : TupX H (upd H p (.tup xs)) := ⟨Ex.new h, fun b o e => by
  by_cases hb : b = p
  · subst hb
    rw [upd_same] at e
    exact .inr ⟨h, xs, (Option.some.inj e).symm⟩
  · rw [upd_ne hb] at e
    exact .inl e⟩
/-- what the written part says of an error class whose instances are read -/
structure XcR (K : PySem.W.Frag) (C : Addr) (f : Str) : Prop where
  r : XfC K C
  tg : PySem.W.findIn K (.ref C) "tag" = some none
  fl : PySem.W.findIn K (.ref C) f = some none
/-- the caught error p: its tag x, its field f with the value v -/
def ErrAt (K : PySem.W.Frag) (p : Addr × Obj) (H : Hp) (x f : Str) (v : V) : Prop := ∃ C dd fs, p.2.cls = .ref C ∧ p.2.dict = some dd ∧ (∃ vs, p.2.data = .fields vs) ∧ H dd = some (.xd fs) ∧ fs.lookup ("tag" : Str) = some (.str x) ∧ fs.lookup f = some v ∧ XcR K C f
theorem ErrAt.mono {K : PySem.W.Frag} {p : Addr × Obj} {H H' : Hp} {x f : Str} {v : V} (h : ErrAt K p H x f v) (e : Ex H H') : ErrAt K p H' x f v := by
  obtain ⟨C, dd, fs, h1, h2, h3, h4, h5⟩ := h
  exact ⟨C, dd, fs, h1, h2, h3, e _ _ h4, h5⟩
section
variable {X : Cx} {p : Addr × Obj} {e : Expr} {te : TE} {pos : Pos} {n : Str}
theorem pe_xp (hp : p ∈ X.pn) (he : PE X e te) (hb : attributeBase e n X.env (eval e X.env) = eval e X.env := by rfl) :
    PE X (.Attribute e n pos) (fun σ H Q => te σ H fun x H1 => x = .ref p.1 ∧ ∃ C dd fs v, p.2.cls = .ref C ∧ p.2.dict = some dd ∧ (∃ vs, p.2.data = .fields vs) ∧ H1 dd = some (.xd fs) ∧ fs.lookup n = some v ∧ XfC X.K C ∧ PySem.W.findIn X.K (.ref C) n = some none ∧ Q v H1) := by
  refine ⟨fun pins s σ H Q I h => ?_⟩
  refine attr_of hb (thn (he.run pins s σ H _ I h) fun u s1 hh => ?_)
  obtain ⟨x, H1, I1, rx, ex, C, dd, fs, v, ec, ed, ⟨vs, hd⟩, ea, l, T, hno, q⟩ := hh
  subst ex
  obtain rfl : u = Value.ref p.1 := rx
  obtain ⟨ha, _⟩ := I1.pin p (List.mem_append_left _ hp)
  obtain ⟨mA, hns, hr⟩ := (show ObjOk X.prog X.w H1 s1.heap dd (.xd fs) from I1.hok dd _ ea)
  obtain ⟨od, ho, hl⟩ := lookIn_ns hns
  obtain ⟨u, hu, ru⟩ := RelO.some_of (v := v) (o := mA n) (by rw [← l]; exact hr n)
  have J : PySem.W.InstAt s1.heap p.1 p.2 C (some od) := ⟨ha, ec, by unfold PySem.W.notCls; rw [hd] <;> rfl, by rw [ed]; exact ho⟩
  exact HandSPX.exc_get I1.kIn J T.ga T.gg T.exC (PySem.W.findObj_own T.hdC hno rfl (by rw [hl, hu])) (handed_of ru) ⟨v, H1, I1.tok _, ru, q⟩
inductive StrCs : List Expr → List Str → Prop
  | nil : StrCs [] []
  | cons {s : Str} {j : Nat} {q : Pos} {es : List Expr} {l : List Str} (h : StrCs es l) : StrCs (.Constant (.str s) j q :: es) (s :: l)
theorem pa_strs {es : List Expr} {l : List Str} (h : StrCs es l) : PA X es (fun σ H Q => Q (l.map V.str) H) := by
  induction h with
  | nil => exact ⟨fun pos pins s σ H Q I q => pa_nil.run pos pins s σ H Q I q⟩
  | cons h ih => exact ⟨fun pos pins s σ H Q I q => (pa_cons pe_str ih rfl).run pos pins s σ H Q I q⟩
theorem inV_strs {x : Str} : ∀ {l : List Str}, inV (.str x) (l.map V.str) = decide (x ∈ l)
  | [] => rfl
  | y :: l => by
    have ih := inV_strs (x := x) (l := l)
    unfold inV at ih ⊢
    rw [List.map_cons, List.any_cons, ih]
    have e : eqV (.str y) (.str x) = decide (x = y) := by
      show decide (y = x) = decide (x = y) <;> exact decide_eq_decide.mpr ⟨Eq.symm, Eq.symm⟩
    rw [e]
    by_cases h : x = y
    · simp [h]
    · simp [h]
theorem flat_strs : ∀ l : List Str, (l.map V.str).all flatV = true
  | [] => rfl
  | y :: l => by
    rw [List.map_cons, List.all_cons, flat_strs l]
    rfl
/-- the tag is one of these -/
def tTagIn (K : PySem.W.Frag) (p : Addr × Obj) (l : List Str) : TT := fun σ H Q => σ[0]? = some (some (.ref p.1)) ∧ ∃ x f v, ErrAt K p H x f v ∧ ∀ H', TupX H H' → Q (decide (x ∈ l)) H'
def tFldE (K : PySem.W.Frag) (p : Addr × Obj) (fn : Str) : TE := fun σ H Q => σ[0]? = some (some (.ref p.1)) ∧ ∃ x v, ErrAt K p H x fn v ∧ Q v H
variable {es : List Expr} {l : List Str} {q1 q2 q3 q4 : Pos} {k : Nat}
theorem pt_tagIn (hp : p ∈ X.pn) (hN : X.N[0]? = some ("_law_e" : Str)) (hv : Vis X.env.scope "_law_e") (hl : l.length ≤ 100) (h : StrCs es l) (hm : behindInMarks .In (.Tuple es k q3) = false) : PT X (.Compare (.Attribute (.Name "_law_e" q1) "tag" q2) [.In] [.Tuple es k q3] q4) (tTagIn X.K p l) := by
  refine ⟨fun pins s σ H Q I ⟨h0, x, f, v, ⟨C, dd, fs, e1, e2, e3, e4, e5, e6, T⟩, hq⟩ => ?_⟩
  refine (pt_cmpR op_in_seq (pe_xp hp (pe_var (i := 0) hN hv)) (pe_tup (pa_strs h)) hm).run pins s σ H Q I ?_
  refine ⟨.ref p.1, h0, rfl, C, dd, fs, .str x, e1, e2, e3, e4, e5, T.r, T.tg, ?_, fun pp hpp => ?_⟩
  · rw [List.length_map, sizeLine_eq]
    omega
  · refine ⟨pp, _, rfl, .inr (SqT.of upd_same), rfl, flat_strs l, _, rfl, ?_⟩
    show Q (inV (.str x) (l.map V.str)) _
    rw [inV_strs]
    exact hq _ (TupX.one hpp)
theorem pe_fldE (hp : p ∈ X.pn) (hN : X.N[0]? = some ("_law_e" : Str)) (hv : Vis X.env.scope "_law_e") (hb : attributeBase (.Name "_law_e" q1) n X.env (eval (.Name "_law_e" q1) X.env) = eval (.Name "_law_e" q1) X.env) : PE X (.Attribute (.Name "_law_e" q1) n q2) (tFldE X.K p n) := by
  refine ⟨fun pins s σ H Q I ⟨h0, x, v, ⟨C, dd, fs, e1, e2, e3, e4, e5, e6, T⟩, hq⟩ => ?_⟩
  exact (pe_xp hp (pe_var (i := 0) hN hv) hb).run pins s σ H Q I ⟨.ref p.1, h0, rfl, C, dd, fs, v, e1, e2, e3, e4, e6, T.r, T.fl, hq⟩
theorem ifd {c : Prop} [Decidable c] {A B : Prop} (h : c) (a : A) : if decide c = true then A else B := by
  rw [if_pos (decide_eq_true h)]
  exact a
theorem ifn {c : Prop} [Decidable c] {A B : Prop} (h : ¬ c) (b : B) : if decide c = true then A else B := by
  rw [if_neg (by simpa using h)]
  exact b
theorem fld_body (hp : p ∈ X.pn) (hN : X.N[0]? = some ("_law_e" : Str)) (hv : Vis X.env.scope "_law_e") {p1 p2 p3 p4 p5 p6 p7 p8 p9 p10 p11 p12 p13 p14 p15 p16 p17 p18 p19 p20 p21 p22 p23 p24 p25 p26 p27 p28 p29 p30 p31 p32 p33 p34 p35 p36 p37 p38 p39 p40 p41 p42 p43 p44 p45 p46 p47 p48 p49 p50 p51 p52 p53 p54 p55 p56 p57 p58 p59 p60 p61 p62 p63 p64 p65 p66 p67 p68 p69 p70 p71 p72 p73 p74 p75 p76 p77 p78 p79 p80 p81 : Pos} {x f : Str} {v : V} {D : L2.Ends} {σ : L2.St} {H : Hp} (h0 : σ[0]? = some (some (.ref p.1))) (he : ErrAt X.K p H x f v) (hf : fname x = some f) (hq : ∀ H', TupX H H' → D.rt v H') :
    ∃ t, PSs X ([ (.If ((.Compare ((.Attribute (.Name "_law_e" p1) "tag" p2)) ([.In]) ([ (.Tuple ([ (.Constant (.str "BadParent") 0 p3), (.Constant (.str "Cycle") 0 p4), (.Constant (.str "NotRoot") 0 p5), (.Constant (.str "SameRoot") 0 p6), (.Constant (.str "RootsDiffer") 0 p7), (.Constant (.str "NoWay") 0 p8), (.Constant (.str "BadWeight") 0 p9), (.Constant (.str "NoNode") 0 p10)]) (0) (p11))]) (p12))) ([ (.Return ((some (.Attribute (.Name "_law_e" p13) "node" p14))) (p15))]) ([]) (p16)), (.If ((.Compare ((.Attribute (.Name "_law_e" p17) "tag" p18)) ([.In]) ([ (.Tuple ([ (.Constant (.str "TooManyNodes") 0 p19), (.Constant (.str "TooLong") 0 p20), (.Constant (.str "TooManyForests") 0 p21), (.Constant (.str "TooManyWatches") 0 p22)]) (0) (p23))]) (p24))) ([ (.Return ((some (.Attribute (.Name "_law_e" p25) "limit" p26))) (p27))]) ([]) (p28)), (.If ((.Compare ((.Attribute (.Name "_law_e" p29) "tag" p30)) ([.In]) ([ (.Tuple ([ (.Constant (.str "BadStep") 0 p31), (.Constant (.str "BadCost") 0 p32), (.Constant (.str "Contradiction") 0 p33), (.Constant (.str "ParseError") 0 p34)]) (0) (p35))]) (p36))) ([ (.Return ((some (.Attribute (.Name "_law_e" p37) "pos" p38))) (p39))]) ([]) (p40)), (.If ((.Compare ((.Attribute (.Name "_law_e" p41) "tag" p42)) ([.In]) ([ (.Tuple ([ (.Constant (.str "SizesDiffer") 0 p43), (.Constant (.str "BadSize") 0 p44)]) (0) (p45))]) (p46))) ([ (.Return ((some (.Attribute (.Name "_law_e" p47) "size" p48))) (p49))]) ([]) (p50)), (.If ((.Compare ((.Attribute (.Name "_law_e" p51) "tag" p52)) ([.In]) ([ (.Tuple ([ (.Constant (.str "BadName") 0 p53), (.Constant (.str "NameTaken") 0 p54), (.Constant (.str "NoForest") 0 p55)]) (0) (p56))]) (p57))) ([ (.Return ((some (.Attribute (.Name "_law_e" p58) "name" p59))) (p60))]) ([]) (p61)), (.If ((.Compare ((.Attribute (.Name "_law_e" p62) "tag" p63)) ([.In]) ([ (.Tuple ([ (.Constant (.str "BadCommand") 0 p64), (.Constant (.str "BadCount") 0 p65)]) (0) (p66))]) (p67))) ([ (.Return ((some (.IfExp ((.Compare ((.Attribute (.Name "_law_e" p68) "tag" p69)) ([.Eq]) ([(.Constant (.str "BadCommand") 0 p70)]) (p71))) ((.Attribute (.Name "_law_e" p72) "word" p73)) ((.Attribute (.Name "_law_e" p74) "count" p75)) (p76)))) (p77))]) ([]) (p78)), (.Return ((some (.Attribute (.Name "_law_e" p79) "number" p80))) (p81))]) t ∧ t D σ H := by
  refine ⟨_, pss_cons (ps_if (pt_tagIn hp hN hv (by decide) (.cons (.cons (.cons (.cons (.cons (.cons (.cons (.cons .nil)))))))) rfl) (pss_one (ps_ret (pe_fldE hp hN hv rfl))) pss_nil)
    (pss_cons (ps_if (pt_tagIn hp hN hv (by decide) (.cons (.cons (.cons (.cons .nil)))) rfl) (pss_one (ps_ret (pe_fldE hp hN hv rfl))) pss_nil)
    (pss_cons (ps_if (pt_tagIn hp hN hv (by decide) (.cons (.cons (.cons (.cons .nil)))) rfl) (pss_one (ps_ret (pe_fldE hp hN hv rfl))) pss_nil)
    (pss_cons (ps_if (pt_tagIn hp hN hv (by decide) (.cons (.cons .nil)) rfl) (pss_one (ps_ret (pe_fldE hp hN hv rfl))) pss_nil)
    (pss_cons (ps_if (pt_tagIn hp hN hv (by decide) (.cons (.cons (.cons .nil))) rfl) (pss_one (ps_ret (pe_fldE hp hN hv rfl))) pss_nil)
    (pss_cons (ps_if (pt_tagIn hp hN hv (by decide) (.cons (.cons .nil)) rfl) (pss_one (ps_ret (pe_ifExp (pt_cmpR op_eq (pe_xp hp (pe_var (i := 0) hN hv) rfl) pe_str (nomark _)) (pe_fldE hp hN hv rfl) (pe_fldE hp hN hv rfl)))) pss_nil)
    (pss_one (ps_ret (pe_fldE hp hN hv rfl)))))))), ?_⟩
  unfold fname at hf
  refine ⟨h0, x, f, v, he, fun H1 x1 => ?_⟩
  split at hf
  · rename_i c
    refine ifd c ?_
    cases hf
    exact ⟨h0, x, v, he.mono x1.ex, hq _ x1⟩
  rename_i c
  refine ifn c ?_
  refine ⟨h0, x, f, v, he.mono x1.ex, fun H2 x2 => ?_⟩
  have x2 := x1.trans x2
  split at hf
  · rename_i c
    refine ifd c ?_
    cases hf
    exact ⟨h0, x, v, he.mono x2.ex, hq _ x2⟩
  rename_i c
  refine ifn c ?_
  refine ⟨h0, x, f, v, he.mono x2.ex, fun H3 x3 => ?_⟩
  have x3 := x2.trans x3
  split at hf
  · rename_i c
    refine ifd c ?_
    cases hf
    exact ⟨h0, x, v, he.mono x3.ex, hq _ x3⟩
  rename_i c
  refine ifn c ?_
  refine ⟨h0, x, f, v, he.mono x3.ex, fun H4 x4 => ?_⟩
  have x4 := x3.trans x4
  split at hf
  · rename_i c
    refine ifd c ?_
    cases hf
    exact ⟨h0, x, v, he.mono x4.ex, hq _ x4⟩
  rename_i c
  refine ifn c ?_
  refine ⟨h0, x, f, v, he.mono x4.ex, fun H5 x5 => ?_⟩
  have x5 := x4.trans x5
  split at hf
  · rename_i c
    refine ifd c ?_
    cases hf
    exact ⟨h0, x, v, he.mono x5.ex, hq _ x5⟩
  rename_i c
  refine ifn c ?_
  refine ⟨h0, x, f, v, he.mono x5.ex, fun H6 x6 => ?_⟩
  have x6 := x5.trans x6
  have he6 := he.mono x6.ex
  split at hf
  · rename_i c
    subst c
    cases hf
    refine ifd (by decide) ?_
    obtain ⟨C, dd, fs, e1, e2, e3, e4, e5, e7, T⟩ := he6
    refine ⟨.ref p.1, h0, rfl, C, dd, fs, .str "BadCommand", e1, e2, e3, e4, e5, T.r, T.tg, rfl, _, rfl, ?_⟩
    refine ifd (by decide) ?_
    exact ⟨h0, _, v, ⟨C, dd, fs, e1, e2, e3, e4, e5, e7, T⟩, hq _ x6⟩
  split at hf
  · rename_i c
    subst c
    cases hf
    refine ifd (by decide) ?_
    obtain ⟨C, dd, fs, e1, e2, e3, e4, e5, e7, T⟩ := he6
    refine ⟨.ref p.1, h0, rfl, C, dd, fs, .str "BadCount", e1, e2, e3, e4, e5, T.r, T.tg, rfl, _, rfl, ?_⟩
    refine ifn (by decide) ?_
    exact ⟨h0, _, v, ⟨C, dd, fs, e1, e2, e3, e4, e5, e7, T⟩, hq _ x6⟩
  rename_i c1 c2
  refine ifn (by simp [c1, c2]) ?_
  split at hf
  · cases hf
    exact ⟨h0, x, v, he6, hq _ x6⟩
  · cases hf
end
end G

/-! GOut: where an error is handled: pairs stored, the field's def called; try with a pair of classes and a class. -/
namespace G
open PySem PySem.Spec L2 PyProof.Rows L2H HotX
open Evl (Ex)
section
variable {prog : Program} {w : World} {A : Around} {E : Value → Shared → Prop} {s : Shared}
theorem tuple_end_hot {it t x1 : Addr} {i : Nat} {items : Array Value} {Q : Option Value → Shared → Prop} (hot : HotAt A x1 s.heap) (hx1 : x1 ≠ it)
    (hit : IsTupIter s.heap it t i) (ht : IsTup s.heap t items) (hx : items[i]? = none)
    (hQ : ∀ h', Heap.ExtBut it s.heap h' → Q none { s with heap := h' }) : wpAny (model prog w) A (pyNext (.ref it)) Q E s := by
  obtain ⟨o, ho, hc, hd⟩ := id hit
  obtain ⟨ol, hol, _, nl, hdl⟩ := ht
  obtain ⟨hh, o1, vs1, h1, d1, c1⟩ := hot
  unfold pyNext
  refine wpAny_bind (wpAny_attempt (wpAny_callSpecial?_slot (name := Str.ofString "__next__") hit.typeIs slot_tupleiter_next
    (wpAny_call_entry slot_tupleiter_next hit.typeIs entry_tupleiter_next ?_ (args_tupleiter_next _))))
  show wpAny _ _ (field (.ref it) 0 >>= _) _ _ s
  refine wpAny_bind (wpAny_field ho hd (x := .ref t) rfl ?_)
  show wpAny _ _ (if (Value.ref t == Value.none) = true then _ else _) _ _ s
  rw [if_neg (show ¬ ((Value.ref t == Value.none) = true) from Bool.false_ne_true)]
  show wpAny _ _ (field (.ref it) 1 >>= _) _ _ s
  refine wpAny_bind (wpAny_field ho hd (x := .int i 0) rfl ?_)
  show wpAny _ _ (seqItems? (.ref t) >>= _) _ _ s
  refine wpAny_bind (wpAny_seqItems hol hdl ?_)
  simp only [Int.toNat_natCast, hx]
  refine wpAny_bind (wpAny_rule (wpAny_bind (wpAny_setField ho hd (by simp) ?_)))
  show wpAny _ _ (newExc (.type "StopIteration") [] >>= _) _ _ _
  refine wpAny_bind ?_
  simp only [newExc, newTuple]
  refine wpAny_bind (wpAny_newObj_type ?_ (by size_fits))
  refine wpAny_bind (m := firstArgMember _ _) (wpAny_of_eq (a := Value.none) (by first | rfl | (simp only [firstArgMember]; rfl)) ?_)
  refine wpAny_newObj_type ?_ (by size_fits)
  have e1 : ∀ (f : Obj → Obj) (u1 u2 : Obj), (((s.heap.update it f).push u1).push u2).get? x1 = some o1 := fun f u1 u2 =>
    Heap.get?_push_of_some _ (Heap.get?_push_of_some _ ((Heap.get?_update_other _ _ (Ne.symm hx1)).trans h1))
  refine raiseNew_hot ⟨hh, o1, vs1, e1 _ _ _, d1, c1⟩ (Nat.ne_of_lt (Heap.lt_size (Heap.get?_push_of_some _ ((Heap.get?_update_other _ _ (Ne.symm hx1)).trans h1)))) (Heap.get?_push_size _ rfl) rfl (by first | (simp; done) | (simp; omega) | (simp only [Array.size_append]; simp; omega)) ?_
  refine wpAny_bind (wpAny_isInstance (T := "StopIteration") (b := true) ⟨_, Heap.get?_update_self _ (Heap.get?_push_size _ rfl) rfl, rfl⟩ isSubtype_stop ?_)
  refine wpAny_pure (hQ _ fun b u hb e => ?_)
  have k : (s.heap.update it (Obj.mapFields (·.setIfInBounds 0 .none))).get? b = some u := (Heap.get?_update_other _ _ (Ne.symm hb)).trans e
  first
  | (rw [Heap.get?_update_other _ _ (Nat.ne_of_gt (Heap.lt_size (Heap.get?_push_of_some _ k)))]
     exact Heap.get?_push_of_some _ (Heap.get?_push_of_some _ k))
theorem unpack_hot {t x1 : Addr} {items : Array Value} {Q : List Value → Shared → Prop} (hot : HotAt A x1 s.heap) (ht : IsTup s.heap t items)
    (hQ : ∀ h', Heap.ExtBut s.heap.objs.size s.heap h' → Q items.toList { s with heap := h' }) : wpAny (model prog w) A (unpackItems (.ref t) items.size none) Q E s := by
  have hlt : t ≠ s.heap.objs.size := by obtain ⟨o, ho, _⟩ := ht; exact Nat.ne_of_lt (Heap.lt_size ho)
  have hx1 : x1 ≠ s.heap.objs.size := by obtain ⟨_, o, _, ho, _⟩ := hot; exact Nat.ne_of_lt (Heap.lt_size ho)
  unfold unpackItems
  refine wpAny_bind ?_
  unfold notIterableAtAll
  refine wpAny_bind (wpAny_specialOf ht.typeIs slot_tuple_iter.lookup ?_)
  refine wpAny_pure ?_
  simp only [Bool.false_eq_true, if_false]
  refine wpAny_bind (wpAny_holding (iter_tuple ht ?_))
  refine wpAny_bind (wpAny_holding (draw_tuple hlt items.size 0 _ _ ⟨_, Heap.get?_push_size _ rfl, rfl, rfl⟩ (ht.push _) (by omega) fun h₁ hit₁ hs₁ => ?_))
  have hall : List.take items.size (List.drop 0 items.toList) = items.toList := by
    rw [List.drop_zero]; exact List.take_of_length_le (by simp)
  rw [hall, if_neg (by simp)]
  have ht₁ : IsTup h₁ t items := (ht.push _).extBut hs₁.extBut hlt
  have hot1 : HotAt A x1 h₁ := by
    obtain ⟨hh, o, vs, ho, r⟩ := hot
    exact ⟨hh, o, vs, hs₁.extBut x1 o hx1 (Heap.get?_push_of_some _ ho), r⟩
  refine wpAny_bind (wpAny_holding (tuple_end_hot hot1 hx1 hit₁ ht₁ (by simp) fun h₂ he₂ => ?_))
  simp only [Option.isSome_none, Bool.false_eq_true, if_false]
  exact wpAny_pure (hQ h₂ fun b o hb e => he₂ b o hb (hs₁.extBut b o hb (Heap.get?_push_of_some _ e)))
end
section
variable {X : Cx} {pos : Pos}
/-- a, b = x, y where an exception is handled -/
theorem ps_parH {i j : Nat} {x y : Str} {a b : Expr} {ta : TA} {px py pt : Pos} {kt k2 : Nat} {pt2 : Pos} (hc : HotC X) (hN : X.N.Nodup) (hi : X.N[i]? = some x) (hj : X.N[j]? = some y) (hij : i ≠ j)
    (hx : X.env.scope.names.lookup x = some .local) (hy : X.env.scope.names.lookup y = some .local) (ha : PA X [a, b] ta)
    (hw : swappedStores [.Tuple [.Name x px, .Name y py] kt pt] (.Tuple [a, b] k2 pt2) X.env = pure (some [x, y]))
    (hs : swapsWithSole [.Tuple [.Name x px, .Name y py] kt pt] (.Tuple [a, b] k2 pt2) pos.line X.env = pure false := by rfl) :
    PS X (.Assign [.Tuple [.Name x px, .Name y py] kt pt] (.Tuple [a, b] k2 pt2) pos) (tPar i j ta) := by
  refine ⟨fun pins s σ H D I h => ?_⟩
  rw [exec_Assign_arm]
  refine wpAny_bind (wpAny_standAt ?_)
  rw [hs]
  refine wpAny_bind (wpAny_pure ?_)
  rw [if_neg (by decide)]
  refine wpAny_bind (Tuple_ (thn (ha.run _ pins s σ H _ I h) fun us s1 ⟨vs, H1, I1, r1, v, w, e1, q1⟩ => ?_))
  subst e1
  obtain ⟨u1, u2, rfl, rv, rw'⟩ : ∃ u1 u2, us = [u1, u2] ∧ RelV v u1 ∧ RelV w u2 := by
    cases r1 with
    | cons p q =>
      cases q with
      | cons p' q' =>
        cases q'
        exact ⟨_, _, rfl, p, p'⟩
  refine wpAny_newObj_type ?_ (by show 2 ≤ sizeLine; decide)
  have I2 : Inv X pins σ H1 { s1 with heap := s1.heap.push { cls := .type "tuple", data := .seq [u1, u2].toArray } } := I1.kept (t' := s1.toks) fun b o e => Heap.get?_push_of_some _ e
  obtain ⟨x1, hot⟩ := hc.at I2
  rw [hw]
  refine wpAny_bind (wpAny_pure ?_)
  show wpAny (model X.prog X.w) X.A (do rule "assign.swapped-stores"; let items ← unpackItems (.ref s1.heap.objs.size) 2 none; assignInOrder [fun v => bindName X.env y v, fun v => bindName X.env x v] items.reverse; pure Flow.next) _ _ _
  refine wpAny_bind (wpAny_rule (wpAny_bind (unpack_hot (items := #[u1, u2]) hot (IsTup.new s1.heap _) fun h' hx' => ?_)))
  have I3 := I2.kept (h' := h') (t' := s1.toks) fun b o e => hx' b o (Nat.ne_of_lt (Heap.lt_size e)) e
  show wpAny _ _ (assignInOrder [fun v => bindName X.env y v, fun v => bindName X.env x v] [u2, u1] >>= fun _ => pure Flow.next) _ _ _
  refine wpAny_bind (assignInOrder_cons (wpAny_bindName (store_ok I3 hN hj (.inl hy) rw' (fun s2 I4 => ?_) (.inr hy))))
  refine assignInOrder_cons (wpAny_bindName (store_ok I4 hN hi (.inl hx) rv (fun s3 I5 => assignInOrder_nil (wpAny_pure ?_)) (.inr hx)))
  rw [List.set_comm _ _ (Ne.symm hij)] at I5
  exact ⟨_, H1, I5, q1⟩
end
/-! ### the def that tells the field -/
def FldBody (body : List Stmt) : Prop := ∀ {X : Cx} {p : Addr × Obj} {x f : Str} {v : V} {D : L2.Ends} {σ : L2.St} {H : Hp}, p ∈ X.pn → X.N[0]? = some ("_law_e" : Str) → Vis X.env.scope "_law_e" → σ[0]? = some (some (.ref p.1)) → ErrAt X.K p H x f v → fname x = some f → (∀ H', TupX H H' → D.rt v H') → ∃ t, PSs X body t ∧ t D σ H
structure FldOk (P : Program) (w : World) (K : PySem.W.Frag) (mg : Str → Option Value) (base : Heap) (g : Addr) (fd : FuncData) : Prop where
  run : ∀ (A : Around) (outer : List Env) (s : Shared) (H : Hp) (Q : VK) (p : Addr × Obj) (x f : Str) (v : V), RoomH 1 A → Hot1 A p → PinOk outer H s p → Env0 P w K mg base A outer s H → BindsTo s fd ⟨[.ref p.1], []⟩ [("_law_e", .ref p.1)] → ErrAt K p H x f v → fname x = some f → (∀ H', TupX H H' → Q v H') →
    codeAny (model P w) A (.call (.ref g) ⟨[.ref p.1], []⟩) (CR (L2N.CX P w) outer P w H s Q fun _ _ _ => False) s
theorem fld_ok {P : Program} {w : World} {K : PySem.W.Frag} {mg : Str → Option Value} {base : Heap} {g : Addr} {fd : FuncData} {qual : Str} {params : Arguments} {body : List Stmt} {scope : Scope} (FD : FunD K "_law_field" qual params body scope [] [] g fd) (S : FnScope ["_law_e"] ["_law_e"] scope) (hv : scope.names.lookup ("_law_e" : Str) = some .local) (hb : FldBody body) : FldOk P w K mg base g fd := by
  obtain ⟨oc, od, dV, kV, doc, pm, an, cdv, ct, osl, rfl, lk, hcd, _, _⟩ := FD.ex
  refine ⟨fun A outer s H Q p x f v hr hot hpin e0 hbd he hf hq => ?_⟩
  have KX : K.In s.heap := e0.mod.kin.keeps fun b o e => (e0.bs b o e).1
  have lim : s.heap.NoLimit := e0.mod.nolimit.keeps fun b o e => (e0.bs b o e).1
  have hkind : ∀ y ∈ [(("_law_e" : Str), Value.ref p.1)], scope.names.lookup y.1 = some .local ∨ (scope.names.lookup y.1 = some .cell ∧ ((cellsFrom (s.heap.objs.size + 1) scope.names []).lookup y.1).isSome = true) := fun y hy => by
    have e : y = (("_law_e" : Str), Value.ref p.1) := by simpa using hy
    rw [e]
    exact .inl hv
  refine codeAny_call_function hr.depth (KX _ _ lk) rfl S.co S.gen rfl (PySem.W.codeRec_of KX hcd) (hbd _ _ _ _ ?_)
  refine wpAny_newFunctionEnv_cells S.kind hkind fun env he' s1 xx => ?_
  subst he'
  refine ⟨lim.keeps xx.toInCall.keep, codeAny_func ?_⟩
  have I : Inv (cxH (L2N.CX P w) P w K mg base ["_law_e"] qual scope g cdv A outer s H (fun _ _ _ => False) p) [] (L2.start ["_law_e"] [.ref p.1]) H s1 := inv_startH (us := [.ref p.1]) S hpin e0 rfl (.cons rfl .nil) xx
  obtain ⟨t, ht, htt⟩ := hb (X := cxH (L2N.CX P w) P w K mg base ["_law_e"] qual scope g cdv A outer s H (fun _ _ _ => False) p) (p := p) (D := { nx := fun _ H' => Q .non H', rt := Q }) (σ := L2.start ["_law_e"] [.ref p.1]) (H := H) (by show p ∈ [p]; simp) rfl (.inl hv) rfl he hf hq
  refine wpAny_mono (ht.run [] s1 _ H _ I htt) (fun fl s' hs => ?_) fun e s' hs => hs
  have fin : ∀ {σ' : L2.St} {H' : Hp} {v : V} {u : Value}, Inv (cxH (L2N.CX P w) P w K mg base ["_law_e"] qual scope g cdv A outer s H (fun _ _ _ => False) p) [] σ' H' s' → L2.RelV v u → Q v H' → CE outer P w H s Q u s' :=
    fun {σ' H' v u} J rv q => ⟨v, H', J.os, J.bare, J.base, J.hok, rv, q⟩
  cases fl with
  | ret u =>
    obtain ⟨v, σ', H', J, rv, q⟩ := hs
    exact fin J rv q
  | next =>
    obtain ⟨σ', H', J, q⟩ := hs
    exact fin (v := V.non) (u := Value.none) J rfl q
  | brk =>
    obtain ⟨_, _, _, q⟩ := hs
    exact False.elim q
  | cont =>
    obtain ⟨_, _, _, q⟩ := hs
    exact False.elim q
section
variable {X : Cx} {p : Addr × Obj} {i : Nat} {q1 q2 q3 : Pos} {g : Addr} {fd : FuncData}
theorem pe_fld (F : FldOk X.prog X.w X.K X.mg X.base g fd) (hr : RoomH 1 X.A) (hot : Hot1 X.A p) (hp : p ∈ X.pn) (hg : Gl X "_law_field") (hm : X.mg "_law_field" = some (.ref g)) (hk : PySem.W.keepIn X.K (.ref g) = true) (hb : Binds X.K fd ["_law_e"] []) (hN : X.N[i]? = some ("_law_e" : Str)) (hv : Vis X.env.scope "_law_e")
    (he : starEach [.Name "_law_e" q2] X.env = (false, eval (.Name "_law_e" q2) X.env) :: starEach [] X.env := by rfl) :
    PE X (.Call (.Name "_law_field" q1) [.Name "_law_e" q2] [] q3) (fun σ H Q => σ[i]? = some (some (.ref p.1)) ∧ ∃ x f v, ErrAt X.K p H x f v ∧ fname x = some f ∧ ∀ H', TupX H H' → Q v H') := by
  refine ⟨fun pins s σ H Q I ⟨h0, x, f, v, hE, hf, hq⟩ => ?_⟩
  refine wpAny_Call_Name_kw (ld_glob I hg hm ?_ (by decide))
  refine PySem.W.callWith_K (h₀ := X.base) I.ok.mod.kin hk (thn ((pa_cons (pe_var (i := i) hN hv) pa_nil he).run q3 pins s σ H (fun vs H1 => vs = [.ref p.1] ∧ H1 = H) I ⟨_, h0, rfl, rfl⟩) fun us s1 ⟨vs, H1, I1, r1, ev, eH⟩ => ⟨I1.kIn, ?_⟩) he (by rfl)
  subst ev eH
  have eu : us = [Value.ref p.1] := by
    cases r1 with
    | cons r rr =>
      cases rr
      rw [show _ = Value.ref p.1 from r]
  subst eu
  have P1 := I1.pin p (List.mem_append_left _ hp)
  have hpin : PinOk X.stack H1 s1 p := ⟨P1.1, P1.2.1, fun hm => (List.mem_cons.mp (I1.stkSub p.1 hm)).elim P1.2.2.1 P1.2.2.2.1, P1.2.2.2.2⟩
  have bb := hb s1 [Value.ref p.1] I1.kIn rfl
  refine wpAny_call (codeAny_mono (F.run X.A X.stack s1 H1 Q p x f v hr hot hpin I1.env0 bb hE hf hq) fun r s' hq => ?_)
  cases r with
  | error e =>
    obtain ⟨_, _, _, _, _, _, _, _, _, _, _, _, z⟩ := hq
    exact z.elim
  | ok fl =>
    cases fl with
    | ret u => exact I1.after hq
    | next => exact False.elim hq
    | brk => exact False.elim hq
    | cont => exact False.elim hq
end
end G

/-! GOut2: try with a pair of classes and a class, both with a name. -/
namespace G
open PySem PySem.Spec L2 PyProof.Rows L2H HotX
open Evl (Ex)
/-- a class by its global name -/
structure GlC (X : Cx) (x : Str) (c : Value) : Prop where
  g : Gl X x
  d : (x == ("__debug__" : Str)) = false
  m : X.mg x = some c
/-- what the two clauses wish -/
def wO (K : PySem.W.Frag) (c1 c2 c3 : Value) (i : Nat) (t1 t2 : Addr → Value → Option Addr → TS) (D : L2.Ends) : WX := fun cls d σ H =>
  (PySem.W.exmAny K cls [c1, c2] = some true ∧ ∀ a, H a = none → t1 a cls d { nx := fun σ' H' => D.nx (σ'.set i none) H', rt := D.rt, bk := fun σ' H' => D.bk (σ'.set i none) H', ct := fun σ' H' => D.ct (σ'.set i none) H' } (σ.set i (some (.ref a))) H) ∨
    (PySem.W.exmAny K cls [c1, c2] = some false ∧ PySem.W.exmOne K cls c3 = some true ∧ ∀ a, H a = none → t2 a cls d { nx := fun σ' H' => D.nx (σ'.set i none) H', rt := D.rt, bk := fun σ' H' => D.bk (σ'.set i none) H', ct := fun σ' H' => D.ct (σ'.set i none) H' } (σ.set i (some (.ref a))) H)
theorem fly_push {B h : Heap} {l : List Env} {e : Addr} {Z : Obj → Prop} (f : HandSPX.FlyingZ B l e Z h) (u : Obj) : HandSPX.FlyingZ B l e Z (h.push u) := by
  obtain ⟨h1, h2, h3, oe, vs, T, oT, ts, e1, e2, e3, e4, e5, e6, e7, e8, e9⟩ := f
  exact ⟨fun b o q => Heap.get?_push_of_some _ (h1 b o q), h2, h3.of_keeps fun b o q _ => ⟨o, Heap.get?_push_of_some _ q, rfl⟩, oe, vs, T, oT, ts, Heap.get?_push_of_some _ e1, e2, e3, e4, e5, e6, Heap.get?_push_of_some _ e7, e8, e9⟩
section
variable {X : Cx} {x1 x2 x3 n : Str} {c1 c2 c3 : Value} {i k : Nat} {body su1 su2 : List Stmt} {b1 b2 : Stmt} {np1 np2 np3 ntp pos pos1 pos2 : Pos} {tb : WX → TS} {t1 t2 : Addr → Value → Option Addr → TS}
theorem ps_tryO (hs : X.stack = X.env :: X.outer) (hf : X.env.frame = some X.env.locals) (hN : X.N.Nodup) (hi : X.N[i]? = some n) (hln : X.env.kindOf n = some .local) (hc1 : GlC X x1 c1) (hc2 : GlC X x2 c2) (hc3 : GlC X x3 c3)
    (hb : ∀ (W : WX) (pn : List (Addr × Obj)) (xe : Value → Shared → Prop), L2N.Takes (X.tr pn xe) W → PassesOwn (model X.prog X.w) X.A X.env xe → PSs (X.tr pn xe) body (tb W))
    (hsu1 : ∀ (a : Addr) (oe : Obj) (cls : Value) (d : Option Addr) (pn : List (Addr × Obj)), L2N.Zn cls d oe → (∃ vs, oe.data = .fields vs) → PSs (X.suite a ((a, oe) :: pn)) (b1 :: su1) (t1 a cls d))
    (hsu2 : ∀ (a : Addr) (oe : Obj) (cls : Value) (d : Option Addr) (pn : List (Addr × Obj)), L2N.Zn cls d oe → (∃ vs, oe.data = .fields vs) → PSs (X.suite a ((a, oe) :: pn)) (b2 :: su2) (t2 a cls d)) :
    PS X (.Try body [.ExceptHandler (some (.Tuple [.Name x1 np1, .Name x2 np2] k ntp)) (some n) (b1 :: su1) pos1, .ExceptHandler (some (.Name x3 np3)) (some n) (b2 :: su2) pos2] [] [] pos) (fun D σ H => tb (wO X.K c1 c2 c3 i t1 t2 D) D σ H) := by
  refine ⟨fun pins s σ H D I h => ?_⟩
  have ok := I.ok
  have hfr : X.A.frames = some (X.env :: X.outer) := by rw [ok.frames, hs]
  have hloc : Loc X.env.scope n := .inl hln
  refine wpAny_Try_except ?_
  refine wpAny_mono ((hb (wO X.K c1 c2 c3 i t1 t2 D) (X.pn ++ pins) (fun e s₁ => wpAny (model X.prog X.w) X.A (noteFrame e X.env) (fun _ s₂ => wpAny (model X.prog X.w) X.A (setFlight e none) (fun _ s₃ =>
    wpAny (model X.prog X.w) X.A (handleBy e X.env [.ExceptHandler (some (.Tuple [.Name x1 np1, .Name x2 np2] k ntp)) (some n) (b1 :: su1) pos1, .ExceptHandler (some (.Name x3 np3)) (some n) (b2 :: su2) pos2]) (SP X pins D) X.xe s₃) X.xe s₂) X.xe s₁) (fun u s' xx => ?_) PassesOwn.looking).run [] s σ H D (I.toTry _) h) (fun f s1 hsp => ?_) (fun e s1 he => he)
  · obtain ⟨a, B, sI, pins', σ', H', cls, d, rfl, J', nb, up, sky, na, os, ag, wish⟩ := xx
    have J : Inv X pins σ' H' sI := J'.ofTry ok
    have sky' : Sky B (X.env :: X.outer) a (L2N.Zn cls d) X.env.locals s'.heap := by rw [← hs]; exact sky
    show wpAny (model X.prog X.w) X.A (noteFrame (.ref a) X.env) _ _ _
    refine L2N.Sky.land L2N.Zn.steady hfr hf sky' fun h3 fl3 up3 => ?_
    have J3 : Inv X pins σ' H' { s' with heap := h3 } := J.landed nb fl3.1 (up.trans up3) os ag
    obtain ⟨oe3, vs3, he3, hz3, hd3⟩ := fl3.there
    have nfr : a ∉ frs (X.env :: X.outer) := fun hm => by
      obtain ⟨_, o', e', hnf⟩ := fl3.2.2.1.mem hm
      rw [he3] at e'
      cases e'
      exact hnf _ hd3
    have nL : a ≠ X.env.locals := fun z => nfr (List.mem_filterMap.mpr ⟨X.env, List.mem_cons_self, by rw [hf, z]⟩)
    have nF : a ∉ X.fs := fun hm => by
      obtain ⟨e, he, q⟩ := List.mem_filterMap.mp hm
      exact nfr (List.mem_filterMap.mpr ⟨e, List.mem_cons_of_mem _ he, q⟩)
    have S3 := J3.suite he3 hd3 na nL nF
    obtain ⟨bb, hbb⟩ : ∃ bb, PySem.W.exmAny X.K cls [c1, c2] = some bb := by
      rcases wish with ⟨e, _⟩ | ⟨e, _⟩
      · exact ⟨_, e⟩
      · exact ⟨_, e⟩
    refine wpAny_handleBy_cons (codeAny_handlers_test ?_) (by intro q; cases q)
    -- the pair of classes
    refine Tuple_ (Calls.spliced_cons (ld_glob (X := X.suite a ((a, oe3) :: (X.pn ++ pins))) S3 hc1.g hc1.m (Calls.spliced_cons (ld_glob (X := X.suite a ((a, oe3) :: (X.pn ++ pins))) S3 hc2.g hc2.m (Calls.spliced_nil (wpAny_newObj_type ?_ (by show 2 ≤ sizeLine; decide))) hc2.d)) hc1.d))
    have fl4 := fly_push fl3 { cls := .type "tuple", data := .seq [c1, c2].toArray }
    have up4 : h3.UpToSlots (h3.push { cls := .type "tuple", data := .seq [c1, c2].toArray }) := Heap.UpToSlots.of_keeps fun b o e => Heap.get?_push_of_some _ e
    have J4 : Inv X pins σ' H' { s' with heap := h3.push { cls := .type "tuple", data := .seq [c1, c2].toArray } } := J.landed nb fl4.1 ((up.trans up3).trans up4) os ag
    have he4 : (h3.push { cls := .type "tuple", data := .seq [c1, c2].toArray }).get? a = some oe3 := Heap.get?_push_of_some _ he3
    have LT : PySem.W.Looks (model X.prog X.w) (h3.push { cls := .type "tuple", data := .seq [c1, c2].toArray }) (typeOf (.ref a)) cls := fun A Q E s k q => wpAny_typeOf_ref (k _ _ he4) (by rw [hz3.1]; exact q)
    have LM := PySem.W.exm_tup2 (M := model X.prog X.w) (J4.kIn) LT (Heap.get?_push_size h3 rfl) hbb
    refine LM.here ?_
    rcases wish with ⟨e, hts⟩ | ⟨e, e2, hts⟩
    · have eb : bb = true := Option.some.inj (hbb.symm.trans e)
      subst eb
      refine codeAny_handlers_suite_as ?_
      refine HandSPX.lands_againZ fl4 fun h5 fl5 up5 => ?_
      have J5 : Inv X pins σ' H' { s' with heap := h5 } := J.landed nb fl5.1 (((up.trans up3).trans up4).trans up5) os ag
      obtain ⟨oe5, vs5, he5, hz5, hd5⟩ := fl5.there
      have S5 := J5.suite he5 hd5 na nL nF
      refine store_ok (X := X.suite a ((a, oe5) :: (X.pn ++ pins))) (v := .ref a) S5 hN hi hloc rfl (fun s6 S6 => ?_) (.inr hln)
      refine wpAny_mono ((hsu1 a oe5 cls d (X.pn ++ pins) hz5 ⟨_, hd5⟩).run [] s6 _ H' _ S6 (hts a na)) (fun f s7 hsp => ?_) (fun _ _ z => False.elim z)
      have end_ : ∀ {σ7 : L2.St} {H7 : Hp} {Q : Shared → Prop}, Inv (X.suite a ((a, oe5) :: (X.pn ++ pins))) [] σ7 H7 s7 → (∀ s8, Inv X pins (σ7.set i none) H7 s8 → Q s8) →
          wpAny (model X.prog X.w) X.A (do bindName X.env n .none; unbindBehindTheSuite X.env n pos1) (fun _ s8 => Q s8) X.xe s7 := fun {σ7 H7 Q} S7 hq => gone_ok (S7.unsuite ok) hN hi hln hq
      cases f with
      | next =>
        obtain ⟨σ7, H7, S7, q7⟩ := hsp
        exact end_ S7 fun s8 J8 => ⟨_, _, J8, q7⟩
      | brk =>
        obtain ⟨σ7, H7, S7, q7⟩ := hsp
        exact end_ S7 fun s8 J8 => ⟨_, _, J8, q7⟩
      | cont =>
        obtain ⟨σ7, H7, S7, q7⟩ := hsp
        exact end_ S7 fun s8 J8 => ⟨_, _, J8, q7⟩
      | ret u =>
        obtain ⟨v7, σ7, H7, S7, r7, q7⟩ := hsp
        exact end_ S7 fun s8 J8 => ⟨_, _, _, J8, r7, q7⟩
    · have eb : bb = false := Option.some.inj (hbb.symm.trans e)
      subst eb
      show wpAny _ X.A (handleBy (.ref a) X.env [.ExceptHandler (some (.Name x3 np3)) (some n) (b2 :: su2) pos2]) _ _ _
      have S4 := J4.suite he4 hd3 na nL nF
      refine wpAny_handleBy_cons (codeAny_handlers_test ?_) (by intro q; cases q)
      have LM2 := PySem.W.exm_one (M := model X.prog X.w) (J4.kIn) LT e2
      refine ld_glob (X := X.suite a ((a, oe3) :: (X.pn ++ pins))) S4 hc3.g hc3.m (LM2.here ?_) hc3.d
      refine codeAny_handlers_suite_as ?_
      refine HandSPX.lands_againZ fl4 fun h5 fl5 up5 => ?_
      have J5 : Inv X pins σ' H' { s' with heap := h5 } := J.landed nb fl5.1 (((up.trans up3).trans up4).trans up5) os ag
      obtain ⟨oe5, vs5, he5, hz5, hd5⟩ := fl5.there
      have S5 := J5.suite he5 hd5 na nL nF
      refine store_ok (X := X.suite a ((a, oe5) :: (X.pn ++ pins))) (v := .ref a) S5 hN hi hloc rfl (fun s6 S6 => ?_) (.inr hln)
      refine wpAny_mono ((hsu2 a oe5 cls d (X.pn ++ pins) hz5 ⟨_, hd5⟩).run [] s6 _ H' _ S6 (hts a na)) (fun f s7 hsp => ?_) (fun _ _ z => False.elim z)
      have end_ : ∀ {σ7 : L2.St} {H7 : Hp} {Q : Shared → Prop}, Inv (X.suite a ((a, oe5) :: (X.pn ++ pins))) [] σ7 H7 s7 → (∀ s8, Inv X pins (σ7.set i none) H7 s8 → Q s8) →
          wpAny (model X.prog X.w) X.A (do bindName X.env n .none; unbindBehindTheSuite X.env n pos2) (fun _ s8 => Q s8) X.xe s7 := fun {σ7 H7 Q} S7 hq => gone_ok (S7.unsuite ok) hN hi hln hq
      cases f with
      | next =>
        obtain ⟨σ7, H7, S7, q7⟩ := hsp
        exact end_ S7 fun s8 J8 => ⟨_, _, J8, q7⟩
      | brk =>
        obtain ⟨σ7, H7, S7, q7⟩ := hsp
        exact end_ S7 fun s8 J8 => ⟨_, _, J8, q7⟩
      | cont =>
        obtain ⟨σ7, H7, S7, q7⟩ := hsp
        exact end_ S7 fun s8 J8 => ⟨_, _, J8, q7⟩
      | ret u =>
        obtain ⟨v7, σ7, H7, S7, r7, q7⟩ := hsp
        exact end_ S7 fun s8 J8 => ⟨_, _, _, J8, r7, q7⟩
  · cases f with
    | next =>
      obtain ⟨σ', H', J', q⟩ := hsp
      exact wpAny_execs_nil ⟨σ', H', J'.ofTry ok, q⟩
    | brk =>
      obtain ⟨σ', H', J', q⟩ := hsp
      exact ⟨σ', H', J'.ofTry ok, q⟩
    | cont =>
      obtain ⟨σ', H', J', q⟩ := hsp
      exact ⟨σ', H', J'.ofTry ok, q⟩
    | ret u =>
      obtain ⟨v, σ', H', J', r, q⟩ := hsp
      exact ⟨v, σ', H', J'.ofTry ok, r, q⟩
end
end G

/-! GOut3: the defs that tell a lambda's answer or error. -/
namespace G
open PySem PySem.Spec L2 PyProof.Rows L2H HotX
open Evl (Ex)
theorem PE.imp {X : Cx} {e : Expr} {t t' : TE} (h : PE X e t) (k : ∀ σ H Q, t' σ H Q → t σ H Q) : PE X e t' := ⟨fun pins s σ H Q I q => h.run pins s σ H Q I (k σ H Q q)⟩
/-- the caught error, by its class and dict -/
def ErrC (K : PySem.W.Frag) (cls : Value) (d : Option Addr) (H : Hp) (x f : Str) (v : V) : Prop := ∃ C dd fs, cls = .ref C ∧ d = some dd ∧ H dd = some (.xd fs) ∧ fs.lookup ("tag" : Str) = some (.str x) ∧ fs.lookup f = some v ∧ XcR K C f
theorem ErrC.at {K : PySem.W.Frag} {cls : Value} {d : Option Addr} {H : Hp} {x f : Str} {v : V} {a : Addr} {oe : Obj} (h : ErrC K cls d H x f v) (hz : L2N.Zn cls d oe) (hd : ∃ vs, oe.data = .fields vs) : ErrAt K (a, oe) H x f v := by
  obtain ⟨C, dd, fs, h1, h2, h3⟩ := h
  exact ⟨C, dd, fs, hz.1.trans h1, hz.2.1.trans h2, hd, h3⟩
/-- the result (k: without the answer) -/
def resK (k : Bool) (Q : VK) (a : V) (t : Str) (v : V) (H : Hp) : Prop := ∀ p, H p = none → if k = true then ∀ p2, upd H p (.tup [a, .str t, v]) p2 = none → Q (.ref p2) (upd (upd H p (.tup [a, .str t, v])) p2 (.tup [.str t, v])) else Q (.ref p) (upd H p (.tup [a, .str t, v]))
def outQ (k : Bool) (Q : VK) : VK := fun v H => resK k Q v "" .non H
def outE (k : Bool) (K : PySem.W.Frag) (c1 c2 c3 : Value) (Q : VK) : XK := fun cls d H => ∃ x f v, ErrC K cls d H x f v ∧
  ((PySem.W.exmAny K cls [c1, c2] = some true ∧ fname x = some f ∧ ∀ H', TupX H H' → resK k Q .non x v H') ∨ (PySem.W.exmAny K cls [c1, c2] = some false ∧ PySem.W.exmOne K cls c3 = some true ∧ resK k Q .non x .non H))

theorem roomHm {k : Nat} {A : Around} (r : Room k A) (h : Option Value) : RoomH k (A.mark h) := ⟨r.dp, r.un⟩
structure OutOk (P : Program) (w : World) (K : PySem.W.Frag) (mg : Str → Option Value) (base : Heap) (k : Nat) (kf : Bool) (c1 c2 c3 : Value) (x : Str) : Prop where
  ex : ∃ g fd, mg x = some (.ref g) ∧ PySem.W.keepIn K (.ref g) = true ∧ L2.Binds K fd ["_law_ask"] [] ∧
    ∀ (A : Around) (stk : List Env) (s : Shared) (H : Hp) (f : Addr) (tl : XK → Hp → VK → Prop) (Q : VK) (j : Nat), Room (j + k) A → Env0 P w K mg base A stk s H → BindsTo s fd ⟨[.ref f], []⟩ [("_law_ask", .ref f)] → LamRun P w K mg base j (frs stk) f s H tl →
      (∀ E H Q, tl E H Q → ∃ t cl, LamAt H t cl f) → (∀ H1, TupX H H1 → ∀ (E : XK) (Q' : VK), (∀ cls d H', outE kf K c1 c2 c3 Q cls d H' → E cls d H') → (∀ v H', outQ kf Q v H' → Q' v H') → tl E H1 Q') →
      codeAny (model P w) A (.call (.ref g) ⟨[.ref f], []⟩) (CR (L2N.CX P w) stk P w H s Q fun _ _ _ => False) s
section
variable {X : Cx} {W : WX} {f a : Addr} {x : Str} {tl : XK → Hp → VK → Prop} {i k : Nat} {q1 q2 q3 : Pos} {c1 c2 c3 : Value} {kf : Bool}
theorem pe_ask (R : LamRun X.prog X.w X.K X.mg X.base k (frs X.outer) f X.s_0 X.H_0 tl) (hex : X.ex = []) (hr : Room (k + 1) X.A) (tk : L2N.Takes X W) (ht : ∀ E H Q, tl E H Q → ∃ t cl, LamAt H t cl f) (hN : X.N[i]? = some x) (hv : Vis X.env.scope x)
    (hd : (x == ("__debug__" : Str)) = false := by decide) (hcd : (x == ("__classdict__" : Str)) = false := by decide) : PE X (.Call (.Name x q1) [] [] q2) (fun σ H Q => σ[i]? = some (some (.ref f)) ∧ tl (WE W σ) H Q) := by
  refine ⟨fun pins s σ H Q I ⟨h0, h1⟩ => ?_⟩
  refine wpAny_Call_Name_kw (thn ((pe_var (pos := q1) (i := i) hN hv hd hcd).run pins s σ H (fun v H1 => v = .ref f ∧ H1 = H) I ⟨.ref f, h0, rfl, rfl⟩) fun u s1 ⟨v, H1, I1, r1, ev, eH⟩ => ?_)
  subst ev eH
  obtain rfl : u = Value.ref f := r1
  obtain ⟨t, cl, c', dV, hf, _⟩ := ht _ _ _ h1
  obtain ⟨⟨pm, ctv, of1⟩, _, _⟩ := I1.hok f _ hf
  refine PySem.W.callWith_F0 ⟨_, _, _, _, of1⟩ ?_
  have un : Un (frs X.outer) [] X.H_0 H1 X.s_0.heap s1.heap := by
    have z := I1.base
    rw [hex] at z
    exact z
  refine wpAny_call (codeAny_mono (R X.A X.stack s1 H1 Q (WE W σ) hr I1.env0 un h1) fun r s' hq => ?_)
  cases r with
  | error e => exact L2N.passAt tk σ pins H1 s1 e s' I1 hq
  | ok fl =>
    cases fl with
    | ret u => exact I1.after hq
    | next => exact False.elim hq
    | brk => exact False.elim hq
    | cont => exact False.elim hq
/-- where such a def is called with a name's value, a lambda that was handed over -/
theorem pe_outv (O : OutOk X.prog X.w X.K X.mg X.base k kf c1 c2 c3 x) {j : Nat} {y : Str} (R : LamRun X.prog X.w X.K X.mg X.base j (frs X.outer) f X.s_0 X.H_0 tl) (hex : X.ex = []) (hstk : X.stack = X.env :: X.outer) (hfr : X.env.frame = some X.env.locals) (hL : X.s_0.heap.get? X.env.locals = none) (hr : Room (j + k) X.A) (ht : ∀ E H Q, tl E H Q → ∃ t cl, LamAt H t cl f)
    (hg : Gl X x) (hN : X.N[i]? = some y) (hv : Vis X.env.scope y) (he : starEach [.Name y q2] X.env = (false, eval (.Name y q2) X.env) :: starEach [] X.env := by rfl) (hdx : (x == ("__debug__" : Str)) = false := by decide)
    (hd : (y == ("__debug__" : Str)) = false := by decide) (hcd : (y == ("__classdict__" : Str)) = false := by decide) :
    PE X (.Call (.Name x q1) [.Name y q2] [] q3) (fun σ H Q => σ[i]? = some (some (.ref f)) ∧ ∀ H1, TupX H H1 → ∀ (E : XK) (Q' : VK), (∀ cls d H', outE kf X.K c1 c2 c3 Q cls d H' → E cls d H') → (∀ v H', outQ kf Q v H' → Q' v H') → tl E H1 Q') := by
  obtain ⟨g, fd, hm, hk, hb, run⟩ := O.ex
  refine ⟨fun pins s σ H Q I ⟨h0, h1⟩ => ?_⟩
  refine wpAny_Call_Name_kw (ld_glob I hg hm ?_ hdx)
  refine PySem.W.callWith_K (h₀ := X.base) I.ok.mod.kin hk (thn ((pa_cons (pe_var (i := i) hN hv hd hcd) pa_nil he).run q3 pins s σ H (fun vs H1 => vs = [.ref f] ∧ H1 = H) I ⟨_, h0, rfl, rfl⟩) fun us s1 ⟨vs, H1, I1, r1, ev, eH⟩ => ⟨I1.kIn, ?_⟩) he (by rfl)
  subst ev eH
  have eu : us = [Value.ref f] := by
    cases r1 with
    | cons r rr =>
      cases rr
      rw [show _ = Value.ref f from r]
  subst eu
  have un : Un (frs X.outer) [] X.H_0 H1 X.s_0.heap s1.heap := by
    have z := I1.base
    rw [hex] at z
    exact z
  have R1 : LamRun X.prog X.w X.K X.mg X.base j (frs X.stack) f s1 H1 tl := by
    have z := R.deep un hL
    have e : frs X.stack = X.env.locals :: frs X.outer := by
      rw [hstk]
      unfold frs
      rw [List.filterMap_cons, hfr]
    rw [e]
    exact z
  have bb := hb s1 [Value.ref f] I1.kIn rfl
  refine wpAny_call (codeAny_mono (run X.A X.stack s1 H1 f tl Q j hr I1.env0 bb R1 ht h1) fun r s' hq => ?_)
  cases r with
  | error e =>
    obtain ⟨_, _, _, _, _, _, _, _, _, _, _, _, z⟩ := hq
    exact z.elim
  | ok fl =>
    cases fl with
    | ret u => exact I1.after hq
    | next => exact False.elim hq
    | brk => exact False.elim hq
    | cont => exact False.elim hq
end
abbrev outN : List Str := ["_law_ask", "_law_answer", "_law_tag", "_law_field_here", "_law_e"]
section
variable {P : Program} {w : World} {K : PySem.W.Frag} {mg : Str → Option Value} {base : Heap} {fF : Addr} {fdF : FuncData} {qual : Str} {params : Arguments} {body : List Stmt} {scope : Scope} {g : Addr} {fd : FuncData} {c1 c2 c3 : Value} {k : Nat}
theorem out_ok {p1 p2 p3 p4 p5 p6 p7 p8 p9 p10 p11 p12 p13 p14 p15 p16 p17 p18 p19 p20 p21 p22 p23 p24 p25 p26 p27 p28 p29 p30 p31 p32 p33 p34 p35 p36 p37 p38 p39 : Pos} (F : FldOk P w K mg base fF fdF) (mF : mg "_law_field" = some (.ref fF)) (kF : PySem.W.keepIn K (.ref fF) = true) (bF : L2.Binds K fdF ["_law_e"] []) (FD : FunD K "_law_outcome" qual params body scope [] [] g fd) (hm : mg "_law_outcome" = some (.ref g)) (S : FnScope outN ["_law_ask"] scope)
    (g1 : scope.names.lookup ("ForestError" : Str) = some .globalImplicit) (g2 : scope.names.lookup ("Missing" : Str) = some .globalImplicit) (g3 : scope.names.lookup ("EmptyHistory" : Str) = some .globalImplicit) (g4 : scope.names.lookup ("_law_field" : Str) = some .globalImplicit)
    (l0 : scope.names.lookup ("_law_ask" : Str) = some .local) (l1 : scope.names.lookup ("_law_answer" : Str) = some .local) (l2 : scope.names.lookup ("_law_tag" : Str) = some .local) (l3 : scope.names.lookup ("_law_field_here" : Str) = some .local) (l4 : scope.names.lookup ("_law_e" : Str) = some .local)
    (m1 : mg "ForestError" = some c1) (m2 : mg "Missing" = some c2) (m3 : mg "EmptyHistory" = some c3) (hbd : L2.Binds K fd ["_law_ask"] [])
    (hw0 : ∀ L f cd, swappedStores [.Tuple [.Name "_law_answer" p1, .Name "_law_tag" p2, .Name "_law_field_here" p3] 0 p4] (.Tuple [.Constant .none 0 p5, .Constant (.str "") 0 p6, .Constant .none 0 p7] 0 p8) (envOfC qual scope L f cd) = pure none)
    (hw1 : ∀ L f cd, swappedStores [.Tuple [.Name "_law_tag" p17, .Name "_law_field_here" p18] 0 p19] (.Tuple [.Attribute (.Name "_law_e" p20) "tag" p21, .Call (.Name "_law_field" p22) [.Name "_law_e" p23] [] p24] 0 p25) (envOfC qual scope L f cd) = pure (some (["_law_tag", "_law_field_here"] : List Str)))
    (hb : body = ([ (.Assign ([ (.Tuple ([ (.Name "_law_answer" p1), (.Name "_law_tag" p2), (.Name "_law_field_here" p3)]) (0) (p4))]) ((.Tuple ([ (.Constant .none 0 p5), (.Constant (.str "") 0 p6), (.Constant .none 0 p7)]) (0) (p8))) (p9)), (.Try ([ (.Assign ([(.Name "_law_answer" p10)]) ((.Call (.Name "_law_ask" p11) [] [] p12)) (p13))]) ([ (.ExceptHandler ((some (.Tuple ([(.Name "ForestError" p14), (.Name "Missing" p15)]) (0) (p16)))) ((some "_law_e")) ([ (.Assign ([ (.Tuple ([(.Name "_law_tag" p17), (.Name "_law_field_here" p18)]) (0) (p19))]) ((.Tuple ([ (.Attribute (.Name "_law_e" p20) "tag" p21), (.Call ((.Name "_law_field" p22)) ([(.Name "_law_e" p23)]) ([]) (p24))]) (0) (p25))) (p26))]) (p27)), (.ExceptHandler ((some (.Name "EmptyHistory" p28))) ((some "_law_e")) ([ (.Assign ([(.Name "_law_tag" p29)]) ((.Attribute (.Name "_law_e" p30) "tag" p31)) (p32))]) (p33))]) ([]) ([]) (p34)), (.Return ((some (.Tuple ([ (.Name "_law_answer" p35), (.Name "_law_tag" p36), (.Name "_law_field_here" p37)]) (0) (p38)))) (p39))])) : OutOk P w K mg base 3 false c1 c2 c3 "_law_outcome" := by
  subst hb
  obtain ⟨oc, od, dV, kV, doc, pm, an, cdv, ct, osl, rfl, lk, hcd, _, _⟩ := FD.ex
  refine ⟨g, _, hm, FD.kp, hbd, fun A stk s H f tl Q j hr e0 hbt R ht h => ?_⟩
  refine LamX.run_ofS (k := j + 2) (N := outN) (ps := ["_law_ask"]) (us := [.ref f]) (vs := [.ref f]) (E := fun _ _ _ => False) lk hcd S hr e0 hbt (.cons rfl .nil) rfl fun hr' => ?_
  have nd := S.nd
  have room1 : Room (j + 1) (A.deeper (envOfC qual scope s.heap.objs.size g cdv)) := hr'.mono (by omega)
  have R' : LamRun P w K mg base j (frs (cxOf (L2N.CX P w) P w K mg base outN qual scope g cdv A stk s H (fun _ _ _ => False)).outer) f (cxOf (L2N.CX P w) P w K mg base outN qual scope g cdv A stk s H (fun _ _ _ => False)).s_0 (cxOf (L2N.CX P w) P w K mg base outN qual scope g cdv A stk s H (fun _ _ _ => False)).H_0 tl := R
  refine ⟨_, pss_cons (ps_asg (pe_tup (pa_cons pe_non (pa_cons pe_str (pa_cons pe_non pa_nil)))) (pg_tup rfl (pgs_cons (pg_name (i := 1) nd rfl (.inl l1)) (pgs_cons (pg_name (i := 2) nd rfl (.inl l2)) (pgs_cons (pg_name (i := 3) nd rfl (.inl l3)) pgs_nil)))) rfl (hw0 _ _ _))
    (pss_cons (ps_tryO (i := 4) (c1 := c1) (c2 := c2) (c3 := c3) (tb := fun W => tAsg (fun σ H Q => σ[0]? = some (some (.ref f)) ∧ tl (WE W σ) H Q) (gName 1))
        (t1 := fun a cls d => tPar 2 3 (tCons (fun σ H Q => tVar 4 σ H fun x H1 => x = .ref a ∧ ∃ C dd fs v, cls = .ref C ∧ d = some dd ∧ H1 dd = some (.xd fs) ∧ fs.lookup ("tag" : Str) = some v ∧ XfC K C ∧ PySem.W.findIn K (.ref C) "tag" = some none ∧ Q v H1)
          (tCons (fun σ H Q => σ[4]? = some (some (.ref a)) ∧ ∃ x f v, ErrC K cls d H x f v ∧ fname x = some f ∧ ∀ H', TupX H H' → Q v H') tNil)))
        (t2 := fun a cls d => tAsg (fun σ H Q => tVar 4 σ H fun x H1 => x = .ref a ∧ ∃ C dd fs v, cls = .ref C ∧ d = some dd ∧ H1 dd = some (.xd fs) ∧ fs.lookup ("tag" : Str) = some v ∧ XfC K C ∧ PySem.W.findIn K (.ref C) "tag" = some none ∧ Q v H1) (gName 2))
        rfl rfl nd rfl l4 ⟨g1, by decide, m1⟩ ⟨g2, by decide, m2⟩ ⟨g3, by decide, m3⟩
        (fun W pn xe tk _ => pss_one (ps_set nd rfl (.inl l1) (pe_ask (i := 0) R' rfl room1 tk ht rfl (.inl l0))))
        (fun a oe cls d pn hz hd => ?s1) (fun a oe cls d pn hz hd => ?s2))
      (pss_one (ps_ret (pe_tup (pa_cons (pe_var (i := 1) rfl (.inl l1)) (pa_cons (pe_var (i := 2) rfl (.inl l2)) (pa_cons (pe_var (i := 3) rfl (.inl l3)) pa_nil))))))), ?_⟩
  case s1 =>
    have hp : ∀ pn : List (Addr × Obj), (a, oe) ∈ ((cxOf (L2N.CX P w) P w K mg base outN qual scope g cdv A stk s H (fun _ _ _ => False)).suite a ((a, oe) :: pn)).pn := fun pn => List.mem_cons_self
    have hot : Hot1 ((cxOf (L2N.CX P w) P w K mg base outN qual scope g cdv A stk s H (fun _ _ _ => False)).suite a ((a, oe) :: pn)).A (a, oe) := by
      obtain ⟨vs, hd⟩ := hd
      exact ⟨rfl, vs, hd, hz.2.2 vs hd⟩
    refine pss_one (ps_parH ⟨(a, oe), hot, hp _⟩ nd rfl rfl (by decide) l2 l3 (pa_cons (PE.imp (pe_xp (p := (a, oe)) (hp _) (pe_var (i := 4) rfl (.inl l4))) ?_) (pa_cons (PE.imp (pe_fld (i := 4) F (roomHm (hr'.mono (by omega)) _) hot (hp _) g4 mF kF bF rfl (.inl l4)) ?_) pa_nil)) (hw1 _ _ _))
    · rintro σ H Q ⟨v, e, ex, C, dd, fs, u, e1, e2, e3, e4, e5, e6, q⟩
      exact ⟨v, e, ex, C, dd, fs, u, hz.1.trans e1, hz.2.1.trans e2, hd, e3, e4, e5, e6, q⟩
    · rintro σ H Q ⟨e, x, f, v, he, hf, q⟩
      exact ⟨e, x, f, v, he.at hz hd, hf, q⟩
  case s2 =>
    have hp : ∀ pn : List (Addr × Obj), (a, oe) ∈ ((cxOf (L2N.CX P w) P w K mg base outN qual scope g cdv A stk s H (fun _ _ _ => False)).suite a ((a, oe) :: pn)).pn := fun pn => List.mem_cons_self
    refine pss_one (ps_set nd rfl (.inl l2) (PE.imp (pe_xp (p := (a, oe)) (hp _) (pe_var (i := 4) rfl (.inl l4))) ?_))
    rintro σ H Q ⟨v, e, ex, C, dd, fs, u, e1, e2, e3, e4, e5, e6, q⟩
    exact ⟨v, e, ex, C, dd, fs, u, hz.1.trans e1, hz.2.1.trans e2, hd, e3, e4, e5, e6, q⟩
  · refine ⟨by show 3 ≤ sizeLine; decide, fun p0 hp0 => ⟨p0, _, rfl, SqT.of upd_same, rfl, .non, _, rfl, .str "", _, rfl, .non, _, rfl, rfl, ?_⟩⟩
    refine ⟨rfl, h _ (TupX.one hp0) _ _ (fun cls d H' he => ?_) (fun v H' hq => ?_)⟩
    · obtain ⟨x, fn, v, ⟨C, dd, fs, e1, e2, e3, e4, e5, e6⟩, hh⟩ := he
      rcases hh with ⟨b1, hf, hq⟩ | ⟨b1, b2, hq⟩
      · refine .inl ⟨b1, fun a ha => ⟨.ref a, rfl, rfl, C, dd, fs, .str x, e1, e2, e3, e4, e6.r, e6.tg, rfl, x, fn, v, ⟨C, dd, fs, e1, e2, e3, e4, e5, e6⟩, hf, fun H2 x2 => ⟨.str x, v, rfl, .non, rfl, .str x, rfl, v, rfl, by show 3 ≤ sizeLine; decide, fun pp hpp => ?_⟩⟩⟩
        exact hq H2 x2 pp hpp
      · refine .inr ⟨b1, b2, fun a ha => ⟨.ref a, rfl, rfl, C, dd, fs, .str x, e1, e2, e3, e4, e6.r, e6.tg, .non, rfl, .str x, rfl, .non, rfl, by show 3 ≤ sizeLine; decide, fun pp hpp => ?_⟩⟩
        exact hq pp hpp
    · exact ⟨v, rfl, .str "", rfl, .non, rfl, by show 3 ≤ sizeLine; decide, fun pp hpp => hq pp hpp⟩
theorem err_ok {p1 p2 p3 p4 p5 p6 p7 : Pos} (O : OutOk P w K mg base k false c1 c2 c3 "_law_outcome") (FD : FunD K "_law_error" qual params body scope [] [] g fd) (hm : mg "_law_error" = some (.ref g)) (S : FnScope ["_law_ask"] ["_law_ask"] scope)
    (g1 : scope.names.lookup ("_law_outcome" : Str) = some .globalImplicit) (l0 : scope.names.lookup ("_law_ask" : Str) = some .local) (hbd : L2.Binds K fd ["_law_ask"] []) (hb : body = ([ (.Return ((some (.Subscript ((.Call ((.Name "_law_outcome" p1)) ([(.Name "_law_ask" p2)]) ([]) (p3))) ((.Slice (some (.Constant (.int 1) 0 p4)) none none (p5))) (p6)))) (p7))])) : OutOk P w K mg base (k + 1) true c1 c2 c3 "_law_error" := by
  subst hb
  obtain ⟨oc, od, dV, kV, doc, pm, an, cdv, ct, osl, rfl, lk, hcd, _, _⟩ := FD.ex
  refine ⟨g, _, hm, FD.kp, hbd, fun A stk s H f tl Q j hr e0 hbt R ht h => ?_⟩
  refine LamX.run_ofS (k := j + k) (N := ["_law_ask"]) (ps := ["_law_ask"]) (us := [.ref f]) (vs := [.ref f]) (E := fun _ _ _ => False) lk hcd S hr e0 hbt (.cons rfl .nil) rfl fun hr' => ?_
  have R' : LamRun P w K mg base j (frs (cxOf (L2N.CX P w) P w K mg base ["_law_ask"] qual scope g cdv A stk s H (fun _ _ _ => False)).outer) f (cxOf (L2N.CX P w) P w K mg base ["_law_ask"] qual scope g cdv A stk s H (fun _ _ _ => False)).s_0 (cxOf (L2N.CX P w) P w K mg base ["_law_ask"] qual scope g cdv A stk s H (fun _ _ _ => False)).H_0 tl := R
  refine ⟨_, pss_one (ps_ret (pe_slice sl_tup (pe_outv (i := 0) O R' rfl rfl rfl (Heap.get?_none_of_le (Nat.le_refl _)) hr' ht g1 rfl (.inl l0)) (po_some pe_int) po_none)), ?_⟩
  refine ⟨rfl, fun H1 x1 E Q' hE hQ => h H1 x1 E Q' (fun cls d H' he => hE cls d H' ?_) (fun v H' hq => hQ v H' ?_)⟩
  · obtain ⟨x, fn, v, ec, hh⟩ := he
    refine ⟨x, fn, v, ec, ?_⟩
    rcases hh with ⟨b1, hf, hq⟩ | ⟨b1, b2, hq⟩
    · refine .inl ⟨b1, hf, fun H2 x2 pp hpp => ?_⟩
      have z := hq H2 x2 pp hpp
      rw [if_pos rfl] at z
      rw [if_neg Bool.false_ne_true]
      exact ⟨1, rfl, pp, [.non, .str x, v], rfl, SqT.of upd_same, by simp [HT.sIx], fun p2 hp2 => z p2 hp2⟩
    · refine .inr ⟨b1, b2, fun pp hpp => ?_⟩
      have z := hq pp hpp
      rw [if_pos rfl] at z
      rw [if_neg Bool.false_ne_true]
      exact ⟨1, rfl, pp, [.non, .str x, .non], rfl, SqT.of upd_same, by simp [HT.sIx], fun p2 hp2 => z p2 hp2⟩
  · intro pp hpp
    have z := hq pp hpp
    rw [if_pos rfl] at z
    rw [if_neg Bool.false_ne_true]
    exact ⟨1, rfl, pp, [v, .str "", .non], rfl, SqT.of upd_same, by simp [HT.sIx], fun p2 hp2 => z p2 hp2⟩
end
end G

/-! GOut4: what calling a lambda comes to, in the core. -/
namespace G
open PySem PySem.Spec L2 PyProof.Rows L2H HotX
open Evl (Ex)
/-- what the written part says of the error classes -/
structure Errs (K : PySem.W.Frag) (mg : Str → Option Value) (c1 c2 c3 : Value) : Prop where
  ok : ∀ t f C, fname t = some f → mg t = some (.ref C) → PySem.W.exmAny K (.ref C) [c1, c2] = some true ∧ XcR K C f
  ok0 : ∀ C, mg "EmptyHistory" = some (.ref C) → PySem.W.exmAny K (.ref C) [c1, c2] = some false ∧ PySem.W.exmOne K (.ref C) c3 = some true ∧ XcR K C "tag"
section
variable {K : PySem.W.Frag} {wd : Wd} {F H H' : Hp} {cs : Cs}
theorem Rl.more (R : Rl K wd F cs H) (x : TupX H H') : Rl K wd F cs H' := by
  refine ⟨R.b.trans x.ex, R.f.trans x.ex, R.bf, R.inj, fun n o e => ?_, fun n a e => ?_, R.top, R.rf, R.fe, fun p hp => ?_, R.bt⟩
  · obtain ⟨a, u, e1, e2, e3, e4, e5⟩ := R.cell n o e
    exact ⟨a, u, e1, e2, e3, x.ex _ _ e4, e5⟩
  · obtain ⟨o, h1, h2⟩ := R.ran n a e
    exact ⟨o, x.ex _ _ h1, h2⟩
  · obtain ⟨ps, h1, h2⟩ := R.tab p hp
    exact ⟨ps, x.ex _ _ h1, h2⟩
theorem resK_of {kf : Bool} {P : KD} {Q : VK} {a d : D} {t : Str} {va vd : V} (R : Rl K wd F cs H) (ra : Rp K wd a va) (rd : Rp K wd d vd) (q : QOk K wd F P Q) (h : P (outD kf a t d) cs) : resK kf Q va t vd H := by
  intro p hp
  obtain ⟨wd1, l1, R1, r1⟩ := R.tup hp (ds := [a, .str t, d]) (vs := [va, .str t, vd]) ⟨_, _, rfl, ra, _, _, rfl, rfl, _, _, rfl, rd, rfl⟩
  cases kf with
  | false =>
    rw [if_neg Bool.false_ne_true]
    exact q wd1 _ cs _ _ l1 R1 r1 h
  | true =>
    rw [if_pos rfl]
    intro p2 hp2
    obtain ⟨wd2, l2, R2, r2⟩ := R1.tup hp2 (ds := [.str t, d]) (vs := [.str t, vd]) ⟨_, _, rfl, rfl, _, _, rfl, rd.mono l1, rfl⟩
    exact q wd2 _ cs _ _ (l1.trans l2) R2 r2 h
end
/-- a body's reading by its core term -/
def tCore (K : PySem.W.Frag) (mg : Str → Option Value) (c : E) (EE : XK) : TE := fun σ H Q => ∃ wd F τ cs P PX, Rl K wd F cs H ∧ RS K wd τ σ ∧ wpE c τ cs P PX ∧ QOk K wd F P Q ∧
  ∀ wd' x cs' cls dd H', wd.le wd' → Rl K wd' F cs' H' → RpX K mg wd' x cls dd → PX x cs' → EE cls dd H'
theorem tCore_pe {X : Cx} {e : Expr} {c : E} {EE : XK} (h : JE X (wxOf EE) e c) : PE X e (tCore X.K X.mg c EE) := by
  obtain ⟨te, p, r⟩ := h
  refine PE.imp p fun σ H Q ⟨wd, F, τ, cs, P, PX, R, rs, hw, q, x⟩ => ?_
  exact r wd F τ cs σ H P PX Q R rs hw q x
theorem lam_ct {X : Cx} {A : Around} {outer : List Env} {s : Shared} {H : Hp} {EE : XK} {scope : Scope} {f c' : Addr} {j : Nat} (hN : X.N.Nodup) (hr : Room j (A.deeper (LamX.lamEnv X scope s.heap.objs.size f c'))) : Ct (lamX X A outer s H EE scope f c') (wxOf EE) j :=
  ⟨rfl, hN, passes_of rfl, L2N.takes_of rfl rfl rfl rfl, hr⟩
theorem isEr_rp {K : PySem.W.Frag} {mg : Str → Option Value} {c1 c2 c3 : Value} (E : Errs K mg c1 c2 c3) {wd : Wd} {F H : Hp} {cs : Cs} {x : Er} {d : D} {cls : Value} {dd : Option Addr} {kf : Bool} {P : KD} {Q : VK} (R : Rl K wd F cs H) (rx : RpX K mg wd x cls dd) (hx : IsEr x d) (q : QOk K wd F P Q) (h : P (outD kf .non x.tag d) cs) : outE kf K c1 c2 c3 Q cls dd H := by
  obtain ⟨C, a, vs, hm, ec, ed, hB, hn, hv⟩ := rx
  have hH := R.b _ _ hB
  rcases hx with ⟨f, hf, ex⟩ | ⟨ex, e⟩
  · obtain ⟨T1, T2⟩ := E.ok x.tag f C hf hm
    obtain ⟨v1, v2, rd, hvs⟩ : ∃ v1 v2, (Rp K wd d v1 ∧ v2 = V.str x.tag) ∧ vs = [(f, v1), ("tag", v2)] := by
      have e1 : x.fs = [(f, d), ("tag", D.str x.tag)] := by rw [ex]; rfl
      rw [e1] at hn hv
      match vs, hn, hv with
      | [(n1, w1), (n2, w2)], hn, hv =>
        obtain ⟨a1, r1, q1, q2, a2, r2, q3, q4, q5⟩ := hv
        simp only [List.map_cons, List.map_nil, List.cons.injEq, and_true] at hn q1
        obtain ⟨h1, h2⟩ := hn
        obtain ⟨z1, z2⟩ := q1
        subst h1 h2 z1
        rw [q3] at z2
        simp only [List.cons.injEq] at z2
        obtain ⟨z2, _⟩ := z2
        subst z2
        exact ⟨_, _, ⟨q2, q4⟩, rfl⟩
      | [], hn, _ => simp at hn
      | [_], hn, _ => simp at hn
      | _ :: _ :: _ :: _, hn, _ => simp at hn
    obtain ⟨rd, e2⟩ := rd
    subst hvs e2
    have ft : (("tag" : Str) == f) = false := by
      unfold fname at hf
      repeat' split at hf
      all_goals first | (cases hf; decide) | cases hf
    refine ⟨x.tag, f, v1, ⟨C, a, _, ec, ed, hH, ?_, ?_, T2⟩, .inl ⟨by rw [ec]; exact T1, hf, fun H' x' => resK_of (a := .non) (d := d) (R.more x') rfl rd q h⟩⟩
    · simp [List.lookup, ft]
    · simp [List.lookup]
  · subst e
    have et : x.tag = "EmptyHistory" := by rw [ex]; rfl
    obtain ⟨T1, T2, T3⟩ := E.ok0 C (by rw [← et]; exact hm)
    have hvs : vs = [(("tag" : Str), V.str x.tag)] := by
      have e1 : x.fs = [(("tag" : Str), D.str x.tag)] := by rw [ex]; rfl
      rw [e1] at hn hv
      match vs, hn, hv with
      | [(n1, w1)], hn, hv =>
        obtain ⟨a1, r1, q1, q2, q3⟩ := hv
        simp only [List.map_cons, List.map_nil, List.cons.injEq, and_true] at hn q1
        obtain ⟨z1, z2⟩ := q1
        subst hn z1
        rw [show w1 = V.str x.tag from q2]
      | [], hn, _ => simp at hn
      | _ :: _ :: _, hn, _ => simp at hn
    subst hvs
    refine ⟨x.tag, "tag", .str x.tag, ⟨C, a, _, ec, ed, hH, ?_, ?_, T3⟩, .inr ⟨by rw [ec]; exact T1, by rw [ec]; exact T2, resK_of (a := .non) (d := .non) R rfl rfl q h⟩⟩
    · simp [List.lookup]
    · simp [List.lookup]
section
variable {X : Cx} {W : WX} {t : LamT} {pos lpos p : Pos} {kf : Bool} {c1 c2 c3 : Value} {x : Str} {k j : Nat} {c : E}
theorem LamAt.mono {H H' : Hp} {cl : List (Str × Addr)} {f : Addr} (h : LamAt H t cl f) (e : Ex H H') : LamAt H' t cl f := by
  obtain ⟨c, dV, h1, h2, h3⟩ := h
  exact ⟨c, dV, e _ _ h1, e _ _ h2, h3.imp id fun ⟨n, p, e1, e2⟩ => ⟨n, p, e1, e _ _ e2⟩⟩
def outPost (X : Cx) (t : LamT) (c : E) (kf : Bool) (c1 c2 c3 : Value) (σ : L2.St) (Q : VK) : List V → Hp → Prop := fun vs H1 => ∃ f, vs = [.ref f] ∧ ∀ H2, TupX H1 H2 → ∀ (EE : XK) (Q' : VK), (∀ cls d H', outE kf X.K c1 c2 c3 Q cls d H' → EE cls d H') → (∀ v H', outQ kf Q v H' → Q' v H') → LamAt H2 t (cloFrom X.env.cells t.scope.names []) f ∧ tCore X.K X.mg c EE σ H2 Q'
/-- told(lambda: body) -/
theorem j_out (O : OutOk X.prog X.w X.K X.mg X.base k kf c1 c2 c3 x) (ER : Errs X.K X.mg c1 c2 c3) (LC : LamC X t.q) (LN : LamN X.N X.env.scope t.scope) (LB : LamBind t) (hN : X.N.Nodup) (hr : Room (j + k) X.A) (tk : L2N.Takes X W) (hg : Gl X x)
    (hdef : (t.dfl = [] ∧ defaultsOf t.params X.env = ([], [])) ∨ ∃ i j pc, t.dfl = [i] ∧ defaultsOf t.params X.env = ([eval (.Constant (.int i) j pc) X.env], []))
    (hbody : ∀ (A : Around) (outer : List Env) (s : Shared) (H : Hp) (EE : XK) (f c' : Addr), Ct (lamX X A outer s H EE t.scope f c') (wxOf EE) j → JE (lamX X A outer s H EE t.scope f c') (wxOf EE) t.body c)
    (hdx : (x == ("__debug__" : Str)) = false := by decide) (he : starEach [.Lambda t.params t.body t.scope lpos] X.env = (false, eval (.Lambda t.params t.body t.scope lpos) X.env) :: starEach [] X.env := by rfl) :
    JE X W (.Call (.Name x p) [.Lambda t.params t.body t.scope lpos] [] pos) (.out kf c) := by
  obtain ⟨g, fd, hm, hk, hb, run⟩ := O.ex
  obtain ⟨tl, pl, rl⟩ := j_lam (W := W) (pos := lpos) 0 LC (fun ok => LN.has ok) hdef
  refine ⟨fun σ H Q => tCons tl tNil σ H (outPost X t c kf c1 c2 c3 σ Q), ⟨fun pins s σ H Q I h => ?_⟩, fun wd F τ cs σ H P PX Q R rs hw q xx => ?_⟩
  · refine wpAny_Call_Name_kw (ld_glob I hg hm ?_ hdx)
    refine PySem.W.callWith_K (h₀ := X.base) I.ok.mod.kin hk (thn ((pa_cons pl pa_nil he).run pos pins s σ H _ I h) fun us s1 ⟨vs, H1, I1, r1, f, ev, h1⟩ => ⟨I1.kIn, ?_⟩) he (by rfl)
    subst ev
    have eu : us = [Value.ref f] := by
      cases r1 with
      | cons r rr =>
        cases rr
        rw [show _ = Value.ref f from r]
    subst eu
    have R1 := lam_run (k := j) (te := fun E => tCore X.K X.mg c E) I1 LN LB LC.qn (fun A outer s H EE f c' hr hd => tCore_pe (hbody A outer s H EE f c' (lam_ct hN hr))) f
    have bb := hb s1 [Value.ref f] I1.kIn rfl
    refine wpAny_call (codeAny_mono (run X.A X.stack s1 H1 f (fun E H1 Q => LamAt H1 t (cloFrom X.env.cells t.scope.names []) f ∧ tCore X.K X.mg c E σ H1 Q) Q j hr I1.env0 bb R1 (fun E H Q h => ⟨t, _, h.1⟩) h1) fun r s' hq => ?_)
    cases r with
    | error e =>
      obtain ⟨_, _, _, _, _, _, _, _, _, _, _, _, z⟩ := hq
      exact z.elim
    | ok fl =>
      cases fl with
      | ret u => exact I1.after hq
      | next => exact False.elim hq
      | brk => exact False.elim hq
      | cont => exact False.elim hq
  · have hw : wpE c τ cs (fun d c1 => P (outD kf d "" .non) c1) (fun x c1 => ∃ d, IsEr x d ∧ P (outD kf .non x.tag d) c1) := hw
    refine rl wd F τ cs σ H (fun d c1 => d = .clo 0 t X.env.cells ∧ c1 = cs) PX _ R rs ⟨rfl, rfl⟩ (fun wd1 d c1 v H1 l1 R1 rv hd => ?_) xx
    obtain ⟨hd, hc⟩ := hd
    subst hd hc
    obtain ⟨f, c', dV, ev, b1, b2, b3⟩ := rv
    refine ⟨f, by rw [ev], fun H2 x2 EE Q' hE hQ => ?_⟩
    have R2 := R1.more x2
    refine ⟨⟨c', dV, R2.b _ _ b1, R2.b _ _ b2, b3.imp id fun ⟨n, p, e1, e2⟩ => ⟨n, p, e1, R2.b _ _ e2⟩⟩, ?_⟩
    have qq := q.mono l1
    refine ⟨wd1, F, τ, _, _, _, R2, rs.mono l1, hw, fun wd2 d c2 v H3 l2 R3 rd hp => hQ _ _ (resK_of (d := .non) R3 rd rfl (qq.mono l2) hp), fun wd2 x c2 cls dd H3 l2 R3 rx hx => hE _ _ _ ?_⟩
    obtain ⟨d, hi, hp⟩ := hx
    exact isEr_rp ER R3 rx hi (qq.mono l2) hp
end
end G

/-! GTop: from facts of the top to error classes, lambdas' tables, defs' promises. -/
namespace G
open PySem PySem.Spec L2 PyProof.Rows
theorem takesN {X : Cx} : L2N.Takes X (fun _ _ _ _ => False) := fun _ _ x => by
  obtain ⟨_, _, _, _, _, _, _, _, _, _, _, _, _, _, _, _, z⟩ := x
  exact z.elim
section
variable {P : Program} {w : World} {K : PySem.W.Frag} {mg : Str → Option Value} {base : Heap} {x qual : Str} {params : Arguments} {body : List Stmt} {scope : Scope} {f : Addr} {fd : FuncData} {ps ks : List Str} {k n : Nat} {sp : Spec} {ix : List Nat}
theorem fn_mkB (FD : FunD K x qual params body scope [] [] f fd) (hm : mg x = some (.ref f)) (ok : FnOk P w K mg base (L2N.CX P w) k f fd ps (lift K mg sp)) (hb : L2.Binds K fd ps []) : Fn P w K mg base x k ps.length sp :=
  ⟨f, fd, ps, rfl, hm, ok, FD.kp, hb⟩
end
/-! ### the error classes -/
def clsRB (K : PySem.W.Frag) (x f : Str) : Bool := xfB K (He.ga K x) && (decide (PySem.W.findIn K (.ref (He.ga K x)) "tag" = some none) && decide (PySem.W.findIn K (.ref (He.ga K x)) f = some none))
theorem clsRB_ok {K : PySem.W.Frag} {x f : Str} (h : clsRB K x f = true) : XcR K (He.ga K x) f := by
  unfold clsRB at h
  simp only [Bool.and_eq_true, decide_eq_true_eq] at h
  exact ⟨xfB_ok h.1, h.2.1, h.2.2⟩
def clsCB (K : PySem.W.Frag) (x f : Str) : Bool := xcB K (He.ga K x) && (decide (PySem.W.findIn K (.ref (He.ga K x)) "tag" = some none) && (decide (PySem.W.findIn K (.ref (He.ga K x)) f = some none) &&
  (decide (PySem.W.findIn K (.ref (He.ga K x)) "__init__" = some (some (.ref (He.ma K (He.ga K x) "__init__")))) && decide (PySem.W.typeIn K (.ref (He.ma K (He.ga K x) "__init__")) = some (.type "function")))))
section
variable {P : Program} {w : World} {K : PySem.W.Frag} {mg : Str → Option Value} {base : Heap} {x qual f pn : Str} {params : Arguments} {scope : Scope} {fd : FuncData} {p1 p2 p3 p4 p5 p6 p7 p8 p9 : Pos} {j k1 k2 : Nat} {body : List Stmt}
theorem xc_of (h : clsCB K x f = true) (hm : mg x = some (.ref (He.ga K x))) (FD : FunD K "__init__" qual params body scope [] [] (He.fAd K (x, some "__init__")) fd) (S : FnScope ["self", pn] ["self", pn] scope)
    (hv : scope.names.lookup ("self" : Str) = some .local) (hv2 : scope.names.lookup pn = some .local) (hb : body = [.Assign [.Tuple [.Attribute (.Name "self" p1) "tag" p2, .Attribute (.Name "self" p3) f p4] k1 p5] (.Tuple [.Constant (.str x) j p6, .Name pn p7] k2 p8) p9])
    (bd : L2.Binds K fd ["self", pn] []) (hd : (pn == ("__debug__" : Str)) = false := by decide) (hcd : (pn == ("__classdict__" : Str)) = false := by decide) : Xc P w K mg base x f := by
  unfold clsCB at h
  simp only [Bool.and_eq_true, decide_eq_true_eq] at h
  obtain ⟨h1, h2, h3, h4, h5⟩ := h
  exact ⟨_, _, fd, _, hm, ⟨xcB_ok h1, h2, h3⟩, h4, h5, ini_ok FD S hv hv2 hb hd hcd, bd⟩
end
def errTags : List (Str × Str) := [("BadParent", "node"), ("Cycle", "node"), ("NotRoot", "node"), ("SameRoot", "node"), ("RootsDiffer", "node"), ("NoWay", "node"), ("BadWeight", "node"), ("NoNode", "node"), ("TooManyNodes", "limit"), ("TooLong", "limit"), ("TooManyForests", "limit"), ("TooManyWatches", "limit"),
  ("BadStep", "pos"), ("BadCost", "pos"), ("Contradiction", "pos"), ("ParseError", "pos"), ("SizesDiffer", "size"), ("BadSize", "size"), ("BadName", "name"), ("NameTaken", "name"), ("NoForest", "name"), ("BadCommand", "word"), ("BadCount", "count"), ("NoWatch", "number")]
theorem errTags_ok {t f : Str} (h : fname t = some f) : (t, f) ∈ errTags := by
  unfold fname at h
  have go : ∀ (ts : List Str) (g : Str), t ∈ ts → (ts.all fun u => decide ((u, g) ∈ errTags)) = true → (t, g) ∈ errTags := fun ts g hm ha => of_decide_eq_true (List.all_eq_true.mp ha t hm)
  split at h
  · cases h; exact go _ _ (by assumption) (by decide)
  split at h
  · cases h; exact go _ _ (by assumption) (by decide)
  split at h
  · cases h; exact go _ _ (by assumption) (by decide)
  split at h
  · cases h; exact go _ _ (by assumption) (by decide)
  split at h
  · cases h; exact go _ _ (by assumption) (by decide)
  split at h
  · rename_i e; cases h; rw [e]; decide
  split at h
  · rename_i e; cases h; rw [e]; decide
  split at h
  · rename_i e; cases h; rw [e]; decide
  cases h
def gloB (K : PySem.W.Frag) (x : Str) : Bool := decide (PySem.W.nsIn K mainGlobals x = some (some (.ref (He.ga K x))))
def exCs (K : PySem.W.Frag) : List Value := [.ref (He.ga K "ForestError"), .ref (He.ga K "Missing")]
def errsB (K : PySem.W.Frag) : Bool := (errTags.all fun q => decide (PySem.W.nsIn K mainGlobals q.1 = some none) || (gloB K q.1 && (clsRB K q.1 q.2 && decide (PySem.W.exmAny K (.ref (He.ga K q.1)) (exCs K) = some true)))) &&
  (gloB K "ForestError" && (gloB K "Missing" && (gloB K "EmptyHistory" && (clsRB K "EmptyHistory" "tag" && (decide (PySem.W.exmAny K (.ref (He.ga K "EmptyHistory")) (exCs K) = some false) && decide (PySem.W.exmOne K (.ref (He.ga K "EmptyHistory")) (.ref (He.ga K "EmptyHistory")) = some true))))))
section
variable {K : PySem.W.Frag} {h : Heap} {mg : Str → Option Value}
theorem glob_ok (X : K.In h) (G : h.Ns mainGlobals mg) {x : Str} (c : gloB K x = true) : mg x = some (.ref (He.ga K x)) := PySem.W.mg_of X G (of_decide_eq_true c)
theorem errs_ok (X : K.In h) (G : h.Ns mainGlobals mg) (c : errsB K = true) : Errs K mg (.ref (He.ga K "ForestError")) (.ref (He.ga K "Missing")) (.ref (He.ga K "EmptyHistory")) := by
  unfold errsB at c
  simp only [Bool.and_eq_true, List.all_eq_true, Bool.or_eq_true, decide_eq_true_eq] at c
  obtain ⟨c1, c2, c3, c4, c5, c6, c7⟩ := c
  refine ⟨fun t f C hf hm => ?_, fun C hm => ?_⟩
  · rcases c1 _ (errTags_ok hf) with z | ⟨z1, z2, z3⟩
    · rw [show mg t = none from PySem.W.mg_none_of X G z] at hm
      cases hm
    · rw [show mg t = _ from glob_ok X G z1] at hm
      cases hm
      exact ⟨z3, clsRB_ok z2⟩
  · rw [show mg "EmptyHistory" = _ from glob_ok X G c4] at hm
    cases hm
    exact ⟨c6, c7, clsRB_ok c5⟩
theorem errsB_glo (X : K.In h) (G : h.Ns mainGlobals mg) (c : errsB K = true) : mg "ForestError" = some (.ref (He.ga K "ForestError")) ∧ mg "Missing" = some (.ref (He.ga K "Missing")) ∧ mg "EmptyHistory" = some (.ref (He.ga K "EmptyHistory")) := by
  unfold errsB at c
  simp only [Bool.and_eq_true] at c
  exact ⟨glob_ok X G c.2.1, glob_ok X G c.2.2.1, glob_ok X G c.2.2.2.1⟩
end
/-! ### lambdas' tables -/
def tabsU (K : PySem.W.Frag) : Bool := (tabsOf K).all fun p => (tabsOf K).all fun r => !(p.1 == r.1) || decide (p.2 = r.2)
/-- what is known of the table of a def's code object -/
structure LamK (K : PySem.W.Frag) (mg : Str → Option Value) (base : Heap) (cdv : Value) (qual : Str) : Prop where
  ex : ∃ c P, LamX.TabB base mg c P ∧ cdv = .ref c ∧ (P, qual ++ ".<locals>." ++ "<lambda>") ∈ tabsOf K ∧ ∀ p ∈ tabsOf K, p.1 = P → p.2 = qual ++ ".<locals>." ++ "<lambda>"
theorem LamK.c {X : Cx} {q : Str} (L : LamK X.K X.mg X.base X.env.code q) (h : X.env.qual = q ++ ".<locals>.") : LamC X (q ++ ".<locals>." ++ "<lambda>") := ⟨L.ex, by rw [h]⟩
theorem mem_of_lk {a : Addr} {o : Obj} : ∀ {K : PySem.W.Frag}, K.lookup a = some o → (a, o) ∈ K := fun {K} e => by
  induction K with
  | nil => cases e
  | cons q r ih =>
    obtain ⟨b, u⟩ := q
    rw [List.lookup_cons] at e
    cases hb : (a == b) with
    | true =>
      rw [hb] at e
      have := beq_iff_eq.mp hb
      subst this
      cases e
      exact List.mem_cons_self
    | false =>
      rw [hb] at e
      exact List.mem_cons_of_mem _ (ih e)
section
variable {P : Program} {w : World} {K : PySem.W.Frag} {mg : Str → Option Value} {base : Heap} {x qual : Str} {params : Arguments} {body : List Stmt} {scope : Scope} {dvs : List V} {kws : List (Str × V)} {p : Str × Option Str} {fd : FuncData} {N ps : List Str} {k : Nat} {sp : Spec} {core : S}
end
end G

namespace G
def c_need_nodeX_1 : S := (.rse (fun ds => er "NoNode" "node" (ds.headD .non)) (.cons (.v 1) .nil))
def c_need_nodeX_2 : S := (.ite (.app sNot (.cons (.chain sLe sLt (.c (.int 0)) (.v 1) (.app sLen (.cons (.v 0) .nil))) .nil)) (c_need_nodeX_1) .skip)
def c_need_nodeX : S := (c_need_nodeX_2)
def c_need_rootX_1 (p_need_node : G.Spec) : S := (.exp (.app p_need_node (.cons (.v 0) (.cons (.v 1) .nil))))
def c_need_rootX_2 (p_need_node : G.Spec) : S := (.rse (fun ds => er "NotRoot" "node" (ds.headD .non)) (.cons (.v 1) .nil))
def c_need_rootX_3 (p_need_node : G.Spec) : S := (.ite (.app sNe (.cons (.app sIx (.cons (.v 0) (.cons (.v 1) .nil))) (.cons (.v 1) .nil))) (c_need_rootX_2 p_need_node) .skip)
def c_need_rootX (p_need_node : G.Spec) : S := (.seq (c_need_rootX_1 p_need_node) (c_need_rootX_3 p_need_node))
def c_linkX_1 (p_compressed : G.Spec) (p_need_root : G.Spec) : S := (.exp (.app p_need_root (.cons (.v 0) (.cons (.v 1) .nil))))
def c_linkX_2 (p_compressed : G.Spec) (p_need_root : G.Spec) : S := (.exp (.app p_need_root (.cons (.v 0) (.cons (.v 2) .nil))))
def c_linkX_3 (p_compressed : G.Spec) (p_need_root : G.Spec) : S := (.rse (fun ds => er "SameRoot" "node" (ds.headD .non)) (.cons (.v 1) .nil))
def c_linkX_4 (p_compressed : G.Spec) (p_need_root : G.Spec) : S := (.ite (.app sEq (.cons (.v 1) (.cons (.v 2) .nil))) (c_linkX_3 p_compressed p_need_root) .skip)
def c_linkX_5 (p_compressed : G.Spec) (p_need_root : G.Spec) : S := (.ret (.app p_compressed (.cons (.v 0) (.cons (.app sList (.cons (.v 1) .nil)) (.cons (.v 2) .nil)))))
def c_linkX (p_compressed : G.Spec) (p_need_root : G.Spec) : S := (.seq (c_linkX_1 p_compressed p_need_root) (.seq (c_linkX_2 p_compressed p_need_root) (.seq (c_linkX_4 p_compressed p_need_root) (c_linkX_5 p_compressed p_need_root))))
end G

/-! GErr: finds that may raise. -/
namespace G
open PySem (Str)
theorem isEr_of {t f : Str} {d : D} (h : fname t = some f) : IsEr (er t f d) d := .inl ⟨f, h, rfl⟩
theorem sNe_self {x : D} {cs : Cs} {Q : KD} {X : KX} (h : pur 64 (deref cs x) = true) (hQ : Q (.bl false) cs) : sNe [x, x] cs Q X := by
  rw [sNe_e]
  refine ⟨h, h, ?_⟩
  rw [eqD_refl _ _ h]
  exact hQ
theorem sEq_self {x : D} {cs : Cs} {Q : KD} {X : KX} (h : pur 64 (deref cs x) = true) (hQ : Q (.bl true) cs) : sEq [x, x] cs Q X := by
  rw [sEq_e]
  refine ⟨h, h, ?_⟩
  rw [eqD_refl _ _ h]
  exact hQ
theorem pur_tup2 {k : Nat} {a b : D} (ha : pur k a = true) (hb : pur k b = true) : pur (k + 1) (.tup [a, b]) = true := by
  show (decide (2 ≤ lim) && (pur k a && (pur k b && true))) = true
  rw [ha, hb]
  rfl
theorem pur_int {k : Nat} {i : Int} : pur k (.int i) = true := by cases k <;> rfl
theorem pur_str {k : Nat} {s : Str} (h : strOk s = true) : pur k (.str s) = true := by cases k <;> exact h
theorem pur_non {k : Nat} : pur k .non = true := by cases k <;> rfl
end G

/-! GAll: find_all that may raise; its result's list changed by the caller. -/
namespace G
open PySem (Str)
section
open PySem PySem.Spec L2
variable {P : Program} {w : World} {K : PySem.W.Frag} {mg : Str → Option Value} {base : Heap} {k : Nat} {f : Addr} {fd : FuncData} {ps : List Str} {sp : Spec}
end
end G

/-! GHlp: small rules for the laws. -/
namespace G
open PySem (Str)
theorem cutLo_d {xs : List D} {i : Nat} {cs : Cs} {Q : KD} {X : KX} : sCutLo [.lst xs, .int (i : Nat)] cs Q X = Q (.lst (xs.drop i)) cs := by
  show Q (.lst (cutD xs (some (i : Nat)) none)) cs = _
  congr 2
  unfold cutD sIxAt
  simp
  rw [if_neg (by omega)]
  by_cases h : i ≤ xs.length
  · rw [List.take_of_length_le (by simp)]
    congr 1
    omega
  · rw [List.drop_eq_nil_of_le (as := xs) (i := i) (by omega)]
    rw [List.drop_eq_nil_of_le (by omega)]
    simp
/-- told(lambda: f(..)) -/
def spOut (k : Bool) (sp : Spec) : Spec := fun ds cs Q _ => sp ds cs (fun d c1 => Q (outD k d "" .non) c1) (fun x c1 => ∃ d, IsEr x d ∧ Q (outD k .non x.tag d) c1)
theorem out_app {k : Bool} {sp : Spec} {as : Es} {σ : Sl} {cs : Cs} {Q : KD} {X : KX} : wpE (.out k (.app sp as)) σ cs Q X = wpEs as σ cs (fun ds c1 => spOut k sp ds c1 Q X) (fun x c1 => ∃ d, IsEr x d ∧ Q (outD k .non x.tag d) c1) := rfl
theorem out_appk {k : Bool} {n m : Nat} {ix : List Nat} {sp : Spec} {as bs : Es} {σ : Sl} {cs : Cs} {Q : KD} {X : KX} : wpE (.out k (.appk n m ix sp as bs)) σ cs Q X = wpEs as σ cs (fun ds c1 => wpEs bs σ c1 (fun es c2 => ds.length = n ∧ es.length = m ∧ spOut k sp (permL ix (ds ++ es)) c2 Q X) (fun x c1 => ∃ d, IsEr x d ∧ Q (outD k .non x.tag d) c1)) (fun x c1 => ∃ d, IsEr x d ∧ Q (outD k .non x.tag d) c1) := rfl
end G

/-! GLcI: a comprehension over a list whose element may lean on what its maker's frame holds. -/
namespace G
open PySem PySem.Spec L2 PyProof.Rows
open Evl (Ex)
/-- the block of a comprehension that is entered at (s, H) -/
abbrev bkX (X : Cx) (scope : Scope) (s : Shared) (H : Hp) (fp : List Addr) : Cx :=
  X.blk s H scope (compEnvC scope (cellsFrom (s.heap.objs.size + 1) scope.names (cloFrom X.env.cells scope.names [])) s.heap.objs.size X.env) fp
section
variable {X : Cx} {pins : List (Addr × Obj)} {σ : L2.St} {s : Shared} {H : Hp} {elt tg iter : Expr} {scope : Scope} {own : List (Str × Nat)} {pos : Pos} {g : TG} {te : TE} {D it : Addr} {fp : List Addr} {tn : Nat → Heap → Prop} {J : It} {Q : VK}
/-- what stands at the head of a turn -/
def AtTurn (X : Cx) (scope : Scope) (s : Shared) (H : Hp) (fp : List Addr) (σw : L2.St) (tn : Nat → Heap → Prop) (W : Nat → Nat → Hp → Prop) (n : Nat) (s' : Shared) : Prop :=
  ∃ i H', Inv (bkX X scope s H fp) [] σw H' s' ∧ tn i s'.heap ∧ (∀ b ∈ fp, H' b = none) ∧ W i n H'
theorem blk_fp {σ' : L2.St} {H' : Hp} {s' : Shared} (I : Inv (bkX X scope s H fp) [] σ' H' s') (hn : ∀ b ∈ fp, H' b = none) : ∀ b ∈ fp, FpOk (bkX X scope s H fp) [] H' b :=
  fun b hb => ⟨hn b hb, (I.ok.exf b hb).1, I.ok.exfs b hb, .inl hb, fun x c e => (I.ok.exf b hb).2 x c e, fun p hp => by cases (show p ∈ ([] : List (Addr × Obj)) ++ [] from hp)⟩
theorem turn_step {n i : Nat} {s5 : Shared} {H5 : Hp} {W : Nat → Nat → Hp → Prop} {E : Value → Shared → Prop} (hc : X.calm = true) (T : Turn X.prog X.w X.K tg J fp it tn)
    (pg : PG (bkX X scope s H fp) tg g) (pe : PE (bkX X scope s H fp) elt te)
    (I5 : Inv (bkX X scope s H fp) [] (L2.wipe σ (own.map (·.2))) H5 s5) (st5 : tn i s5.heap) (n5 : ∀ b ∈ fp, H5 b = none) (go : J.go i H5) {Nx : Hp → Prop} (hNx : ∀ H', Nx H' → ∃ m', m' < n ∧ W (i + 1) m' H')
    (step : ∀ x H', J.yld i H5 x H' → g x (L2.wipe σ (own.map (·.2))) H' fun σ2 H2 => L2.wipe σ2 (own.map (·.2)) = L2.wipe σ (own.map (·.2)) ∧ (fun σ H Q => Q true H : TT) σ2 H2 fun b H3 => if b = true then te σ2 H3 fun y H4 => ∃ acc, H4 D = some (.lst acc) ∧ acc.length < sizeLine ∧ Nx (upd H4 D (.lst (acc ++ [y]))) else Nx H3) :
    wpAny (model X.prog X.w) X.A (pyNext (.ref it)) (fun r s1 => ∃ v, r = some v ∧ wpAny (model X.prog X.w) X.A (letOwnedTupleGo tg (.ref it) v) (fun _ s2 => wpAny (model X.prog X.w) X.A (assign tg (bkX X scope s H fp).env v) (fun _ s3 =>
      wpAny (model X.prog X.w) X.A (eval elt (bkX X scope s H fp).env) (fun x s4 => wpAny (model X.prog X.w) X.A (call (.builtin "list.append") [.ref D, x]) (fun _ s5 => ∃ m, m < n ∧ AtTurn X scope s H fp (L2.wipe σ (own.map (·.2))) tn W m s5) E s4) E s3) E s2) E s1) E s5 := by
  refine thnF (T.item (bkX X scope s H fp) rfl rfl rfl hc i [] s5 _ H5 (fun _ _ => False) I5 (blk_fp I5 n5) st5 go) fun r s6 ⟨u, hr, h6⟩ => ⟨u, hr, ?_⟩
  refine thnF h6 fun _ s7 ⟨x, H7, I7, r7, y7, st7, n7⟩ => ?_
  have I7' := I7.pinned (blk_fp I7 n7) (T.obj _ _ st7)
  refine thnF (pg.run _ s7 _ H7 x u _ I7' r7 (step x H7 y7)) fun _ s8 ⟨σ8, H8, I8, hw, q8⟩ => ?_
  have q8 := (show if true = true then _ else _ from q8)
  rw [if_pos rfl] at q8
  refine thnF (pe.run _ s8 σ8 H8 _ I8 q8) fun z s9 ⟨y, H9, I9, r9, acc, hD, hz, nx⟩ => ?_
  refine app_ok (X := bkX X scope s H fp) I9 hD hz r9 fun s' I' => ?_
  obtain ⟨m', hm, w'⟩ := hNx _ nx
  have kept : ∀ b ∈ fp, ∀ o, s7.heap.get? b = some o → s'.heap.get? b = some o ∧ upd H9 D (.lst (acc ++ [y])) b = none := fun b hb o e =>
    let z := I'.pin (b, o) (List.mem_append_right _ (List.mem_append_right _ (mem_pinsAt hb e)))
    ⟨z.1, z.2.1⟩
  refine ⟨m', hm, i + 1, _, (I'.unpinned (pins := [])).weak (by rw [← hw, L2.wipe_length]) (fun j v e => ?_), T.keep _ _ _ st7 fun b hb o e => (kept b hb o e).1, fun b hb => ?_, w'⟩
  · rw [← hw] at e
    exact (L2.wipe_some e).1
  · obtain ⟨o, e, _⟩ := T.obj _ _ st7 b hb
    exact (kept b hb o e).2
/-- [elt for tg in iter]: elt's rule may use that the maker's state stood at the block's entry -/
theorem pe_lcI {wi : TI} {te : L2.St → TE} (hc : X.calm = true) (hN : X.N.Nodup) (hi : PI X tg iter wi) (ok : BlkOk X.N X.env.scope scope own)
    (hg : ∀ (s : Shared) (H : Hp) (C : Addr) (cl : List (Str × Addr)) (fp : List Addr), PG (X.blk s H scope (compEnvC scope cl C X.env) fp) tg g)
    (he : ∀ (pins : List (Addr × Obj)) (σ : L2.St) (s : Shared) (H : Hp) (fp : List Addr), Inv X pins σ H s → (∀ b ∈ fp, FpOk X pins H b) → PE (bkX X scope s H fp) elt (te σ)) (hs : ∀ x, foldedSetIterable iter X.env x = pure x := by intro _; rfl) :
    PE X (.ListComp elt [⟨tg, iter, [], 0⟩] scope pos) (fun σ H Q => tLc wi g (fun σ H Q => Q true H) (te σ) (own.map (·.2)) σ H Q) := by
  refine ⟨fun pins s σ H Q I h => ?_⟩
  have free : ∀ y ∈ scope.names, y.2 = .free → ∃ c, X.env.cells.lookup y.1 = some c := fun y hy e => (ok.free y hy e).elim (fun k => I.ok.has _ (.inl k)) fun k => I.ok.has _ (.inr k)
  rw [eval_ListComp]
  refine wpAny_comprehension_free (use := none) rfl hs (closure_ok free) ok.kind (fun y hy e => by rw [ok.uniq y hy, e]) (thn (hi.run pins s σ H _ I h) fun xv s1 hx => thn hx fun itv s2 h2 => ?_)
  obtain ⟨it, fp, tn, J, H2, e, I2, T, st2, f2, q⟩ := h2
  subst e
  refine wpAny_newObj_type (newEnv_comp ?_) (Nat.zero_le _)
  have hDn : H2 s2.heap.objs.size = none := I2.hok.fresh (Nat.le_refl _)
  obtain ⟨W, ⟨m0, w0⟩, turn⟩ := q _ hDn
  have keep3 : ∀ b o, s2.heap.get? b = some o → (s2.heap.push { cls := .type "list", data := .seq ([] : List Value).toArray }).get? b = some o := fun b o e => Heap.get?_push_of_some _ e
  have I3 : Inv X pins σ (upd H2 s2.heap.objs.size (.lst [])) { s2 with heap := s2.heap.push { cls := .type "list", data := .seq ([] : List Value).toArray } } :=
    I2.laid (t' := s2.toks) keep3 (Nat.le_refl _) ⟨Nat.zero_le _, [], 0, .nil, Heap.get?_push_size _ rfl⟩
  have old : ∀ b ∈ fp, b < s2.heap.objs.size := fun b hb => let ⟨o, e, _⟩ := T.obj _ _ st2 b hb; Heap.lt_size e
  have f3 : ∀ b ∈ fp, FpOk X pins (upd H2 s2.heap.objs.size (.lst [])) b ∧ b < (s2.heap.push { cls := .type "list", data := .seq ([] : List Value).toArray }).objs.size := fun b hb => by
    have hlt := old b hb
    exact ⟨⟨by rw [upd_ne (Nat.ne_of_lt hlt)]; exact (f2 b hb).1, (f2 b hb).2⟩, by rw [Heap.size_push]; exact Nat.lt_succ_of_lt hlt⟩
  have st3 := T.keep _ _ _ st2 fun b _ o e => keep3 b o e
  generalize hD : s2.heap.objs.size = D at w0 turn I3 f3
  generalize hs3 : ({ s2 with heap := s2.heap.push { cls := .type "list", data := .seq ([] : List Value).toArray } } : Shared) = s3 at I3
  have eh3 : s2.heap.push { cls := .type "list", data := .seq ([] : List Value).toArray } = s3.heap := by rw [← hs3]
  rw [eh3] at f3 st3
  generalize upd H2 D (.lst []) = H3 at w0 I3 f3
  have I4 := block_start I3 ok hN f3
  have pg := hg s3 H3 s3.heap.objs.size (cellsFrom (s3.heap.objs.size + 1) scope.names (cloFrom X.env.cells scope.names [])) fp
  have pe := he pins σ s3 H3 fp I3 fun b hb => (f3 b hb).1
  have st4 : tn 0 (pushCells (s3.heap.push { cls := .type "dict", data := .dict #[] }) scope.names) := T.keep _ _ _ st3 fun b _ o e => pushCells_keeps _ _ _ _ (Heap.get?_push_of_some _ e)
  have loop : codeAny (model X.prog X.w) X.A (.compLoop (.ListComp elt [⟨tg, iter, [], 0⟩] scope pos) 0 (.ref it) (.ref D) (bkX X scope s3 H3 fp).env)
      (compPost (model X.prog X.w) X.A X.xe none (fun u s' => ∃ v H', Inv X pins σ H' s' ∧ RelV v u ∧ Q v H') (.ref D) s3.heap.objs.size) { s3 with heap := pushCells (s3.heap.push { cls := .type "dict", data := .dict #[] }) scope.names } := by
    refine compLoop_any (AtTurn X scope s3 H3 fp (L2.wipe σ (own.map (·.2))) tn W) ?_ m0 ⟨0, H3, I4, st4, fun b hb => (f3 b hb).1.1, w0⟩
    rintro n s5 ⟨i, H5, I5, st5, n5, w5⟩
    rcases turn i n H5 w5 with ⟨stop, qq⟩ | ⟨go, Nx, hNx, step⟩
    · refine thnF (T.done (bkX X scope s3 H3 fp) rfl rfl rfl hc i [] s5 _ H5 (fun _ _ => False) I5 (blk_fp I5 n5) st5 stop) fun r s6 ⟨hr, I6⟩ => ?_
      subst hr
      have I7 : Inv X pins σ H5 s6 := I3.call' (ch := fp) I6.os I6.base I6.hok I6.bare fun b hb => ⟨(f3 b hb).1.2.2.2.1, (f3 b hb).1.2.1, (f3 b hb).1.2.2.2.2.1, (f3 b hb).1.2.2.2.2.2⟩
      obtain ⟨m, hn, _⟩ := I6.loc
      obtain ⟨k0, k1, k2, k3, k4, k5⟩ := I3.fpOk (b := s3.heap.objs.size) (H' := H5) (Nat.le_refl _) I6.free
      exact ⟨m, hn, fun h'' sb => ⟨.ref D, H5, I7.turned (t' := s6.toks) (fun b o hb e => (sb.2 b hb).trans e) k0 k1 k3 k4 k5, rfl, qq⟩⟩
    · refine thnF (turn_step (D := D) (E := fun _ _ => False) hc T pg pe I5 st5 n5 go hNx step) fun r s6 ⟨v, hr, h6⟩ => ?_
      subst hr
      refine thnF h6 fun _ s7 h7 => thnF h7 fun _ s8 h8 => ?_
      refine wpAny_pure ?_
      show if true = true then _ else _
      rw [if_pos rfl]
      exact thnF h8 fun x s9 h9 => thnF h9 fun _ s10 h10 => h10
  exact codeAny_compStart_list loop (T.self X.A 0 _ _ _ st4 loop)
end
end G

/-! GAsks: [told(ask) for ask in asks]. -/
namespace G
open PySem PySem.Spec L2 PyProof.Rows
open Evl (Ex)
/-- a slot whose name the frame does not see may hold anything -/
theorem Inv.unseen {X : Cx} {pins : List (Addr × Obj)} {σ σ2 : L2.St} {H : Hp} {s : Shared} {i : Nat} {y : Str} (I : Inv X pins σ H s) (hN : X.N[i]? = some y) (hv : ¬ Vis X.env.scope y) (hl : σ2.length = σ.length) (ha : ∀ j v, j ≠ i → σ2[j]? = some (some v) → σ[j]? = some (some v)) : Inv X pins σ2 H s := by
  obtain ⟨h1, h2, h3, h4, ⟨m, hn, hl'⟩, h6, h7, h8, h9, h10, h11⟩ := I
  refine ⟨h1, h2, h3, h4, ⟨m, hn, fun j x v e1 e2 e3 => ?_⟩, h6, h7, h8, h9, h10, hl.trans h11⟩
  by_cases e : j = i
  · subst e
    rw [hN] at e1
    cases e1
    exact absurd e3 hv
  · exact hl' j x v e1 (ha j v e e2) e3
/-- an entry of a table of lambdas -/
structure LtE (X : Cx) (j : Nat) (t : LamT) (e : E) : Prop where
  n : LamN X.N X.env.scope t.scope
  b : LamBind t
  q : t.q = X.env.qual ++ "<lambda>"
  body : ∀ (A : Around) (outer : List Env) (s : Shared) (H : Hp) (EE : XK) (f c' : Addr), Ct (lamX X A outer s H EE t.scope f c') (wxOf EE) j → JE (lamX X A outer s H EE t.scope f c') (wxOf EE) t.body e
def LtOk (X : Cx) (j : Nat) : Lt → Prop
  | .nil => True
  | .cons t e r => LtE X j t e ∧ LtOk X j r
theorem wpL_entry {X : Cx} {j : Nat} : ∀ (l : Lt) (n : Nat) (t : LamT) (σ : Sl) (cs : Cs) (Q : KD) (PX : KX), LtOk X j l → wpL n l t σ cs Q PX → ∃ e, LtE X j t e ∧ wpE e σ cs Q PX
  | .nil, n, t, σ, cs, Q, PX, _, h => by cases n <;> simp at h
  | .cons t' e r, 0, t, σ, cs, Q, PX, hl, h => by
    simp only [wpL] at h
    obtain ⟨rfl, h⟩ := h
    exact ⟨e, hl.1, h⟩
  | .cons t' e r, n + 1, t, σ, cs, Q, PX, hl, h => by
    simp only [wpL] at h
    exact wpL_entry r n t σ cs Q PX hl.2 h
section
variable {X : Cx} {W : WX} {x y : Str} {i k j : Nat} {kf : Bool} {c1 c2 c3 : Value} {scope : Scope} {q1 q2 q3 : Pos}
/-- the element's reading: the slot holds a lambda of the table -/
def tAsk (X : Cx) (j i : Nat) (kf : Bool) (c1 c2 c3 : Value) (σ : L2.St) : TE := fun σ2 H Q => L2.wipe σ2 [i] = L2.wipe σ [i] ∧ ∃ f t e, LtE X j t e ∧ σ2[i]? = some (some (.ref f)) ∧
  ∀ H1, TupX H H1 → ∀ (EE : XK) (Q' : VK), (∀ cls d H', outE kf X.K c1 c2 c3 Q cls d H' → EE cls d H') → (∀ v H', outQ kf Q v H' → Q' v H') → LamAt H1 t (cloFrom X.env.cells t.scope.names []) f ∧ tCore X.K X.mg e EE σ2 H1 Q'
theorem pe_ask1 (O : OutOk X.prog X.w X.K X.mg X.base k kf c1 c2 c3 x) (hr : Room (j + k) X.A) (hnd : X.N.Nodup) (hN : X.N[i]? = some y) (hnv : ¬ Vis X.env.scope y) {pins : List (Addr × Obj)} {σ : L2.St} {s : Shared} {H : Hp} {fp : List Addr} (I0 : Inv X pins σ H s) (hfp : ∀ b ∈ fp, FpOk X pins H b)
    (hg : Gl (bkX X scope s H fp) x) (hv : Vis (bkX X scope s H fp).env.scope y) (he : starEach [.Name y q2] (bkX X scope s H fp).env = (false, eval (.Name y q2) (bkX X scope s H fp).env) :: starEach [] (bkX X scope s H fp).env := by rfl)
    (hdx : (x == ("__debug__" : Str)) = false := by decide) (hd : (y == ("__debug__" : Str)) = false := by decide) (hcd : (y == ("__classdict__" : Str)) = false := by decide) :
    PE (bkX X scope s H fp) (.Call (.Name x q1) [.Name y q2] [] q3) (tAsk X j i kf c1 c2 c3 σ) := by
  obtain ⟨g, fd, hm, hk, hb, run⟩ := O.ex
  refine ⟨fun pins1 s1 σ1 H1 Q I ⟨hw, f, t, e, L, h0, h1⟩ => ?_⟩
  have hσ : Inv X pins σ1 H s := by
    have hl : σ1.length = σ.length := by
      have z := congrArg List.length hw
      rw [L2.wipe_length, L2.wipe_length] at z
      exact z
    refine Inv.unseen I0 hN hnv hl fun m v hm' e' => ?_
    have z : (L2.wipe σ1 [i])[m]? = some (some v) := by
      simp only [L2.wipe]
      rw [List.getElem?_set_ne (Ne.symm hm')]
      exact e'
    rw [hw] at z
    exact (L2.wipe_some z).1
  refine wpAny_Call_Name_kw (ld_glob I hg hm ?_ hdx)
  refine PySem.W.callWith_K (h₀ := X.base) I.ok.mod.kin hk (thn ((pa_cons (pe_var (X := bkX X scope s H fp) (i := i) hN hv hd hcd) pa_nil he).run q3 pins1 s1 σ1 H1 (fun vs H2 => vs = [.ref f] ∧ H2 = H1) I ⟨_, h0, rfl, rfl⟩) fun us s2 ⟨vs, H2, I1, r1, ev, eH⟩ => ⟨I1.kIn, ?_⟩) he (by rfl)
  subst ev eH
  have eu : us = [Value.ref f] := by
    cases r1 with
    | cons r rr =>
      cases rr
      rw [show _ = Value.ref f from r]
  subst eu
  have un : Un (frs X.stack) fp H H2 s.heap s2.heap := I1.base
  have R1 : LamRun X.prog X.w X.K X.mg X.base j (frs X.stack) f s2 H2 (fun E H1 Q => LamAt H1 t (cloFrom X.env.cells t.scope.names []) f ∧ tCore X.K X.mg e E σ1 H1 Q) := fun A stk s3 H3 Q E hr3 e0 un3 hq =>
    lam_runX (ex := fp) (te := fun E => tCore X.K X.mg e E) (fun z c hz hc => (hfp c hc).2.2.2.2.1 z c hz rfl) hσ L.n L.b L.q (fun A outer s H EE f c' hr hd => tCore_pe (L.body A outer s H EE f c' (lam_ct hnd hr))) f A stk s3 H3 Q E hr3 e0 (un.trans (un3.mono (fun _ h => h) fun _ h => by cases h)) hq
  have bb := hb s2 [Value.ref f] I1.kIn rfl
  refine wpAny_call (codeAny_mono (run X.A X.stack s2 H2 f (fun E H1 Q => LamAt H1 t (cloFrom X.env.cells t.scope.names []) f ∧ tCore X.K X.mg e E σ1 H1 Q) Q j hr I1.env0 bb R1 (fun E H Q h => ⟨t, _, h.1⟩) h1) fun r s' hq => ?_)
  cases r with
  | error e =>
    obtain ⟨_, _, _, _, _, _, _, _, _, _, _, _, z⟩ := hq
    exact z.elim
  | ok fl =>
    cases fl with
    | ret u => exact I1.after hq
    | next => exact False.elim hq
    | brk => exact False.elim hq
    | cont => exact False.elim hq
/-- [told(ask) for ask in asks] -/
theorem j_asks {tp pos : Pos} {iter : Expr} {isp : ISpec} {as : Es} {l : Lt} (O : OutOk X.prog X.w X.K X.mg X.base k kf c1 c2 c3 x) (ER : Errs X.K X.mg c1 c2 c3) (hl : LtOk X j l) (hr : Room (j + k) X.A) (hc : X.calm = true) (hnd : X.N.Nodup) (hN : X.N[i]? = some y) (hnv : ¬ Vis X.env.scope y)
    (hi : JI X W (.Name y tp) iter isp as) (ok : BlkOk X.N X.env.scope scope [(y, i)])
    (hgt : ∀ (s : Shared) (H : Hp) (C : Addr) (cl : List (Str × Addr)) (fp : List Addr), JG (X.blk s H scope (compEnvC scope cl C X.env) fp) (.Name y tp) (.nm i) [i])
    (hg : ∀ (s : Shared) (H : Hp) (fp : List Addr), Gl (bkX X scope s H fp) x) (hv : ∀ (s : Shared) (H : Hp) (fp : List Addr), Vis (bkX X scope s H fp).env.scope y)
    (he : ∀ (s : Shared) (H : Hp) (fp : List Addr), starEach [.Name y q2] (bkX X scope s H fp).env = (false, eval (.Name y q2) (bkX X scope s H fp).env) :: starEach [] (bkX X scope s H fp).env := by intro _ _ _; rfl)
    (hs : ∀ x, foldedSetIterable iter X.env x = pure x := by intro _; rfl)
    (hdx : (x == ("__debug__" : Str)) = false := by decide) (hd : (y == ("__debug__" : Str)) = false := by decide) (hcd : (y == ("__classdict__" : Str)) = false := by decide) :
    JE X W (.ListComp (.Call (.Name x q1) [.Name y q2] [] q3) [⟨.Name y tp, iter, [], 0⟩] scope pos) (.comp false [i] (.nm i) isp as (.c (.bl true)) (.outv kf X.env.cells (.v i) l)) := by
  obtain ⟨wi, p0, r0⟩ := hi
  let uG : TG := fun v σ H Q => ∀ (s : Shared) (H0 : Hp) (C : Addr) (cl : List (Str × Addr)) (fp : List Addr) (g : TG), PG (X.blk s H0 scope (compEnvC scope cl C X.env) fp) (.Name y tp) g → RefG (X.blk s H0 scope (compEnvC scope cl C X.env) fp) g (.nm i) [i] → g v σ H Q
  have pG : ∀ (s : Shared) (H : Hp) (C : Addr) (cl : List (Str × Addr)) (fp : List Addr), PG (X.blk s H scope (compEnvC scope cl C X.env) fp) (.Name y tp) uG := fun s H0 C cl fp => by
    obtain ⟨g, p1, r1⟩ := hgt s H0 C cl fp
    exact ⟨fun pins s' σ H v u Q I rv h => p1.run pins s' σ H v u Q I rv (h s H0 C cl fp g p1 r1)⟩
  refine ⟨_, pe_lcI (own := [(y, i)]) (te := tAsk X j i kf c1 c2 c3) hc hnd p0 ok pG (fun pins σ s H fp I0 hfp => pe_ask1 O hr hnd hN hnv I0 hfp (hg s H fp) (hv s H fp) (he s H fp) hdx hd hcd) hs, fun wd F τ cs σ H P PX Q R rs h q x => ?_⟩
  have h : wpEs as τ cs (fun ds c1 => isp ds c1 fun items grd =>
      compL (.nm i) grd (G.wipe τ [i]) (fun σ1 c2 K => K (.bl true) c2) (fun σ1 c2 K => wpE (.outv kf X.env.cells (.v i) l) σ1 c2 K (fun _ _ => False)) (fun ys c3 => P (.lst ys) c3) items [] c1) PX := h
  refine r0 wd F τ cs σ H (fun items grd c1 => compL (.nm i) grd (G.wipe τ [i]) (fun σ1 c2 K => K (.bl true) c2) (fun σ1 c2 K => wpE (.outv kf X.env.cells (.v i) l) σ1 c2 K (fun _ _ => False)) (fun ys c3 => P (.lst ys) c3) items [] c1) PX _ R rs h (fun wd1 items grd c1 J H1 l1 R1 it h1 => ?_) x
  intro Dd hD
  have fn : F Dd = none := Evl.fresh_back R1.f hD
  refine ⟨fun m mm H' => ∃ wd' cs' acc vs, wd1.le wd' ∧ Rl X.K wd' (upd F Dd (.lst vs)) cs' H' ∧ RpL X.K wd' acc vs ∧ mm = items.length - m ∧ m ≤ items.length ∧
    compL (.nm i) grd (G.wipe τ [i]) (fun σ1 c2 K => K (.bl true) c2) (fun σ1 c2 K => wpE (.outv kf X.env.cells (.v i) l) σ1 c2 K (fun _ _ => False)) (fun ys c3 => P (.lst ys) c3) (items.drop m) acc cs', ⟨items.length, wd1, c1, [], [], Wd.le.refl _, R1.fNew hD _, rfl, by simp, Nat.zero_le _, h1⟩, ?_⟩
  rintro m mm H' ⟨wd', cs', acc, vs, l', R', ra, em, hle, h'⟩
  by_cases hm : m < items.length
  · rw [List.drop_eq_getElem_cons hm] at h'
    obtain ⟨hgd, h'⟩ := h'
    obtain ⟨g0, gy⟩ := it.go wd' _ cs' H' m items[m] l' R' hgd (List.getElem?_eq_getElem hm)
    cases eb : bindP (.nm i) [items[m]] (G.wipe τ [i]) with
    | none => rw [eb] at h'; exact h'.elim
    | some τ1 =>
      rw [eb] at h'
      refine .inr ⟨g0, fun H2 => ∃ wd' cs' acc vs, wd1.le wd' ∧ Rl X.K wd' (upd F Dd (.lst vs)) cs' H2 ∧ RpL X.K wd' acc vs ∧
        compL (.nm i) grd (G.wipe τ [i]) (fun σ1 c2 K => K (.bl true) c2) (fun σ1 c2 K => wpE (.outv kf X.env.cells (.v i) l) σ1 c2 K (fun _ _ => False)) (fun ys c3 => P (.lst ys) c3) (items.drop (m + 1)) acc cs', fun H2 ⟨wd2, c2, acc2, vs2, l2, R2, ra2, h2⟩ => ⟨items.length - (m + 1), by omega, wd2, c2, acc2, vs2, l2, R2, ra2, rfl, hm, h2⟩, fun xv H2 yv => ?_⟩
      obtain ⟨wd2, l2, R2, rv⟩ := gy xv H2 yv
      have rsw : RS X.K wd2 (G.wipe τ [i]) (L2.wipe σ [i]) := ((rs.mono (l1.trans (l'.trans l2))).wipe _)
      intro s0 H0 C cl fp g p1 r1
      refine r1 wd2 _ _ cs' _ H2 items[m] xv τ1 _ R2 rsw rv eb fun σ3 rs3 w3 => ?_
      have w5 : L2.wipe σ3 [i] = L2.wipe (L2.wipe σ [i]) [i] := w3
      have w4 : L2.wipe σ3 [i] = L2.wipe σ [i] := by rw [w5, wipe_idem]
      refine ⟨w4, ?_⟩
      have h' : (D.bl true = .bl true ∧ wpE (.outv kf X.env.cells (.v i) l) τ1 cs' (fun z cs2 => acc.length < lim ∧ compL (.nm i) grd (G.wipe τ [i]) (fun σ1 c2 K => K (.bl true) c2) (fun σ1 c2 K => wpE (.outv kf X.env.cells (.v i) l) σ1 c2 K (fun _ _ => False)) (fun ys c3 => P (.lst ys) c3) (items.drop (m + 1)) (acc ++ [z]) cs2) (fun _ _ => False)) ∨ (D.bl true = .bl false ∧ _) := h'
      rcases h' with ⟨_, h'⟩ | ⟨z, _⟩
      · show if true = true then _ else _
        rw [if_pos rfl]
        simp only [wpE] at h'
        cases ev : getV τ1 i with
        | none => rw [ev] at h'; exact h'.elim
        | some dv =>
          rw [ev] at h'
          cases dv with
          | clo n t cl' =>
            obtain ⟨ecl, hw⟩ := h'
            subst ecl
            obtain ⟨e, L, hw⟩ := wpL_entry l n t _ _ _ _ hl hw
            obtain ⟨v3, es3, f, c', dV, ev3, b1, b2, b3⟩ := rs3.at_ i _ ev
            subst ev3
            refine ⟨w4, f, t, e, L, es3, fun H5 x5 EE Q' hE hQ => ?_⟩
            have R5 := R2.more x5
            refine ⟨⟨c', dV, R5.b _ _ b1, R5.b _ _ b2, b3.imp id fun ⟨n, p, e1, e2⟩ => ⟨n, p, e1, R5.b _ _ e2⟩⟩, ?_⟩
            have qq : QOk X.K wd2 (upd F Dd (.lst vs)) (fun z cs2 => acc.length < lim ∧ compL (.nm i) grd (G.wipe τ [i]) (fun σ1 c2 K => K (.bl true) c2) (fun σ1 c2 K => wpE (.outv kf X.env.cells (.v i) l) σ1 c2 K (fun _ _ => False)) (fun ys c3 => P (.lst ys) c3) (items.drop (m + 1)) (acc ++ [z]) cs2)
                (fun yv H4 => ∃ acc, H4 Dd = some (.lst acc) ∧ acc.length < sizeLine ∧ ∃ wd' cs' acc_1 vs, wd1.le wd' ∧ Rl X.K wd' (upd F Dd (.lst vs)) cs' (upd H4 Dd (.lst (acc ++ [yv]))) ∧ RpL X.K wd' acc_1 vs ∧ compL (.nm i) grd (G.wipe τ [i]) (fun σ1 c2 K => K (.bl true) c2) (fun σ1 c2 K => wpE (.outv kf X.env.cells (.v i) l) σ1 c2 K (fun _ _ => False)) (fun ys c3 => P (.lst ys) c3) (items.drop (m + 1)) acc_1 cs') := fun wd4 d4 c4 v4 H4 l4 R4 rv4 h4 => by
              have hf : H4 Dd = some (.lst vs) := R4.f Dd _ upd_same
              have ra4 := RpL.mono (l2.trans l4) _ _ ra
              exact ⟨vs, hf, by rw [ra.length, sizeL]; exact h4.1, wd4, c4, acc ++ [d4], vs ++ [v4], l'.trans (l2.trans l4), R4.fPut (vs ++ [v4]), ra4.append ⟨v4, [], rfl, rv4, rfl⟩, h4.2⟩
            refine ⟨wd2, _, τ1, _, _, _, R5, rs3, hw, fun wd6 d c6 v H6 l6 R6 rd hp => hQ _ _ (resK_of (d := .non) R6 rd rfl (qq.mono l6) hp), fun wd6 x6 c6 cls dd H6 l6 R6 rx hx => hE _ _ _ ?_⟩
            obtain ⟨d, hi, hp⟩ := hx
            exact isEr_rp ER R6 rx hi (qq.mono l6) hp
          | _ => exact h'.elim
      · cases z
  · have ei : m = items.length := by omega
    subst ei
    rw [List.drop_length] at h'
    refine .inl ⟨it.stop wd' _ cs' H' l' R' h'.1, ?_⟩
    obtain ⟨wd2, l2, R2, r2⟩ := R'.fTree fn ra
    exact q wd2 _ _ _ _ (l1.trans (l'.trans l2)) R2 r2 h'.2
end
end G

/-! GClr: list.clear. -/
namespace G
open PySem PySem.Spec L2
open Evl (Ex)
section
variable {X : Cx} {W : WX} {pos apos : Pos} {o : Expr} {co : E}
theorem j_gint {x : Str} {i : Int} {pos : Pos} (hg : Gl X x) (hm : ∃ t, X.mg x = some (.int i t)) (hd : (x == ("__debug__" : Str)) = false := by decide) : JE X W (.Name x pos) (.c (.int i)) := by
  obtain ⟨t, hm⟩ := hm
  exact j_glob (v := .int i) hg hm ⟨t, rfl⟩ (fun _ => rfl) hd
end
end G

/-! GSortM: sorted(set(..)) as a cell. -/
namespace G
open PySem PySem.Spec L2
section
variable {X : Cx} {W : WX} {pos p p' q : Pos} {a : Expr} {ca : E}
end
end G

/-! GTop2: defs that hand over lists of lambdas. -/
namespace G
open PySem PySem.Spec L2 PyProof.Rows
def visB (sc : Scope) (y : Str) : Bool := decide (sc.names.lookup y = some .local) || (decide (sc.names.lookup y = some .cell) || decide (sc.names.lookup y = some .free))
theorem nvis {sc : Scope} {y : Str} (h : visB sc y = false) : ¬ Vis sc y := fun z => by
  unfold visB at h
  simp only [Bool.or_eq_false_iff, decide_eq_false_iff_not] at h
  rcases z with z | z | z
  · exact h.1 z
  · exact h.2.1 z
  · exact h.2.2 z
section
variable {P : Program} {w : World} {K : PySem.W.Frag} {mg : Str → Option Value} {base : Heap} {x qual : Str} {params : Arguments} {body : List Stmt} {scope : Scope} {dvs : List V} {kws : List (Str × V)} {p : Str × Option Str} {fd : FuncData} {N ps : List Str} {k : Nat} {sp : Spec}
end
end G

/-! GExt: list.extend. -/
namespace G
open PySem PySem.Spec L2
open Evl (Ex)
def sExtend : Spec := fun ds cs Q _ => ∃ n y xs zs, ds = [.ref n, y] ∧ cs n = some (.lst xs) ∧ getL y cs = some zs ∧ xs.length + zs.length ≤ lim ∧ Q .non (put cs n (.lst (xs ++ zs)))
section
variable {X : Cx} {W : WX} {pos apos : Pos} {o e : Expr} {co ce : E}
end
end G

namespace G
def c_check_tupleX_1 : S := (.rse (fun ds => er "BadStep" "pos" (ds.headD .non)) (.cons (.v 2) .nil))
def c_check_tupleX_2 : S := (.ite (.or (.app sNe (.cons (.app sLen (.cons (.v 0) .nil)) (.cons (.c (.int 3)) .nil))) (.app sNotIn (.cons (.app sIx (.cons (.v 0) (.cons (.c (.int 0)) .nil))) (.cons (.app sTup (.cons (.c (.str "link")) (.cons (.c (.str "repeat")) .nil))) .nil)))) (c_check_tupleX_1) .skip)
def c_check_tupleX_3 : S := (.rse (fun ds => er "BadStep" "pos" (ds.headD .non)) (.cons (.v 2) .nil))
def c_check_tupleX_4 : S := (.ite (.and (.app sEq (.cons (.app sIx (.cons (.v 0) (.cons (.c (.int 0)) .nil))) (.cons (.c (.str "link")) .nil))) (.or (.app sGt (.cons (.v 1) (.cons (.c (.int 0)) .nil))) (.app sNot (.cons (.app (sIsi .int) (.cons (.app sIx (.cons (.v 0) (.cons (.c (.int 2)) .nil))) .nil)) .nil)))) (c_check_tupleX_3) .skip)
def c_check_tupleX_5 : S := (.rse (fun ds => er "BadStep" "pos" (ds.headD .non)) (.cons (.v 2) .nil))
def c_check_tupleX_6 : S := (.ite (.and (.app sEq (.cons (.app sIx (.cons (.v 0) (.cons (.c (.int 0)) .nil))) (.cons (.c (.str "repeat")) .nil))) (.or (.app (sIsi .int) (.cons (.app sIx (.cons (.v 0) (.cons (.c (.int 2)) .nil))) .nil)) (.or (.app sEq (.cons (.v 1) (.cons (.c (.int 4)) .nil))) (.app sNot (.cons (.chain sLe sLe (.c (.int 0)) (.app sIx (.cons (.v 0) (.cons (.c (.int 1)) .nil))) (.c (.int 1000000000000000000000000000000))) .nil))))) (c_check_tupleX_5) .skip)
def c_check_tupleX : S := (.seq (c_check_tupleX_2) (.seq (c_check_tupleX_4) (c_check_tupleX_6)))
def c_check_stepsX_1 (p_check_steps : G.Spec) (p_check_tuple : G.Spec) : S := (.rse (fun ds => er "TooLong" "limit" (ds.headD .non)) (.cons (.c (.int 100)) .nil))
def c_check_stepsX_2 (p_check_steps : G.Spec) (p_check_tuple : G.Spec) : S := (.ite (.app sEq (.cons (.v 2) (.cons (.c (.int 100)) .nil))) (c_check_stepsX_1 p_check_steps p_check_tuple) .skip)
def c_check_stepsX_3 (p_check_steps : G.Spec) (p_check_tuple : G.Spec) : S := (.asg (.nm 2) (.app sIAdd (.cons (.v 2) (.cons (.c (.int 1)) .nil))))
def c_check_stepsX_4 (p_check_steps : G.Spec) (p_check_tuple : G.Spec) : S := (.exp (.app p_check_tuple (.cons (.v 3) (.cons (.v 1) (.cons (.app sSub (.cons (.v 2) (.cons (.c (.int 1)) .nil))) .nil)))))
def c_check_stepsX_5 (p_check_steps : G.Spec) (p_check_tuple : G.Spec) : S := (.asg (.nm 2) (.app p_check_steps (.cons (.app sIx (.cons (.v 3) (.cons (.c (.int 2)) .nil))) (.cons (.app sAdd (.cons (.v 1) (.cons (.c (.int 1)) .nil))) (.cons (.v 2) .nil)))))
def c_check_stepsX_6 (p_check_steps : G.Spec) (p_check_tuple : G.Spec) : S := (.ite (.app sEq (.cons (.app sIx (.cons (.v 3) (.cons (.c (.int 0)) .nil))) (.cons (.c (.str "repeat")) .nil))) (c_check_stepsX_5 p_check_steps p_check_tuple) .skip)
def c_check_stepsX_7 (p_check_steps : G.Spec) (p_check_tuple : G.Spec) : S := (.ite (.app sNot (.cons (.app (sIsi .int) (.cons (.v 3) .nil)) .nil)) (.seq (c_check_stepsX_4 p_check_steps p_check_tuple) (c_check_stepsX_6 p_check_steps p_check_tuple)) .skip)
def c_check_stepsX_8 (p_check_steps : G.Spec) (p_check_tuple : G.Spec) : S := (.fr (.nm 3) iSeq (.cons (.v 0) .nil) (.seq (c_check_stepsX_2 p_check_steps p_check_tuple) (.seq (c_check_stepsX_3 p_check_steps p_check_tuple) (c_check_stepsX_7 p_check_steps p_check_tuple))))
def c_check_stepsX_9 (p_check_steps : G.Spec) (p_check_tuple : G.Spec) : S := (.ret (.v 2))
def c_check_stepsX (p_check_steps : G.Spec) (p_check_tuple : G.Spec) : S := (.seq (c_check_stepsX_8 p_check_steps p_check_tuple) (c_check_stepsX_9 p_check_steps p_check_tuple))
def c_check_history_1 (p_check_steps : G.Spec) : S := (.exp (.app p_check_steps (.cons (.v 0) (.cons (.c (.int 0)) (.cons (.c (.int 0)) .nil)))))
def c_check_history (p_check_steps : G.Spec) : S := (c_check_history_1 p_check_steps)
def c_run_round_1 (p_find : G.Spec) (p_run_round : G.Spec) : S := (.asg (.nm 2) (.c (.int 0)))
def c_run_round_2 (p_find : G.Spec) (p_run_round : G.Spec) : S := (.asg (.tup (.cons (.nm 0) (.cons (.nm 4) .nil))) (.app p_find (.cons (.v 0) (.cons (.v 3) .nil))))
def c_run_round_3 (p_find : G.Spec) (p_run_round : G.Spec) : S := (.asg (.nm 2) (.app sIAdd (.cons (.v 2) (.cons (.v 4) .nil))))
def c_run_round_4 (p_find : G.Spec) (p_run_round : G.Spec) : S := (.asg (.tup (.cons (.nm 0) (.cons (.nm 4) .nil))) (.app p_run_round (.cons (.v 0) (.cons (.app sIx (.cons (.v 3) (.cons (.c (.int 2)) .nil))) .nil))))
def c_run_round_5 (p_find : G.Spec) (p_run_round : G.Spec) : S := (.asg (.nm 2) (.app sIAdd (.cons (.v 2) (.cons (.v 4) .nil))))
def c_run_round_6 (p_find : G.Spec) (p_run_round : G.Spec) : S := (.asg (.tup (.cons (.nm 0) (.cons (.nm 4) .nil))) (.app p_run_round (.cons (.v 0) (.cons (.app sIx (.cons (.v 3) (.cons (.c (.int 2)) .nil))) .nil))))
def c_run_round_7 (p_find : G.Spec) (p_run_round : G.Spec) : S := (.asg (.nm 2) (.app sIAdd (.cons (.v 2) (.cons (.app sMul (.cons (.app sSub (.cons (.app sIx (.cons (.v 3) (.cons (.c (.int 1)) .nil))) (.cons (.c (.int 1)) .nil))) (.cons (.v 4) .nil))) .nil))))
def c_run_round_8 (p_find : G.Spec) (p_run_round : G.Spec) : S := (.ite (.app sGt (.cons (.app sIx (.cons (.v 3) (.cons (.c (.int 1)) .nil))) (.cons (.c (.int 1)) .nil))) (.seq (c_run_round_6 p_find p_run_round) (c_run_round_7 p_find p_run_round)) .skip)
def c_run_round_9 (p_find : G.Spec) (p_run_round : G.Spec) : S := (.ite (.app sGt (.cons (.app sIx (.cons (.v 3) (.cons (.c (.int 1)) .nil))) (.cons (.c (.int 0)) .nil))) (.seq (c_run_round_4 p_find p_run_round) (.seq (c_run_round_5 p_find p_run_round) (c_run_round_8 p_find p_run_round))) .skip)
def c_run_round_10 (p_find : G.Spec) (p_run_round : G.Spec) : S := (.ite (.app (sIsi .int) (.cons (.v 3) .nil)) (.seq (c_run_round_2 p_find p_run_round) (c_run_round_3 p_find p_run_round)) (c_run_round_9 p_find p_run_round))
def c_run_round_11 (p_find : G.Spec) (p_run_round : G.Spec) : S := (.fr (.nm 3) iSeq (.cons (.v 1) .nil) (c_run_round_10 p_find p_run_round))
def c_run_round_12 (p_find : G.Spec) (p_run_round : G.Spec) : S := (.ret (.app sTup (.cons (.v 0) (.cons (.v 2) .nil))))
def c_run_round (p_find : G.Spec) (p_run_round : G.Spec) : S := (.seq (c_run_round_1 p_find p_run_round) (.seq (c_run_round_11 p_find p_run_round) (c_run_round_12 p_find p_run_round)))
def c_run_history_1 (p_check_history : G.Spec) (p_link : G.Spec) (p_run_round : G.Spec) : S := (.exp (.app p_check_history (.cons (.v 1) .nil)))
def c_run_history_2 (p_check_history : G.Spec) (p_link : G.Spec) (p_run_round : G.Spec) : S := (.asg (.nm 2) (.c (.int 0)))
def c_run_history_3 (p_check_history : G.Spec) (p_link : G.Spec) (p_run_round : G.Spec) : S := (.asg (.nm 0) (.app p_link (.cons (.v 0) (.cons (.app sIx (.cons (.v 3) (.cons (.c (.int 1)) .nil))) (.cons (.app sIx (.cons (.v 3) (.cons (.c (.int 2)) .nil))) .nil)))))
def c_run_history_4 (p_check_history : G.Spec) (p_link : G.Spec) (p_run_round : G.Spec) : S := (.asg (.tup (.cons (.nm 0) (.cons (.nm 4) .nil))) (.app p_run_round (.cons (.v 0) (.cons (.app sList (.cons (.v 3) .nil)) .nil))))
def c_run_history_5 (p_check_history : G.Spec) (p_link : G.Spec) (p_run_round : G.Spec) : S := (.asg (.nm 2) (.app sIAdd (.cons (.v 2) (.cons (.v 4) .nil))))
def c_run_history_6 (p_check_history : G.Spec) (p_link : G.Spec) (p_run_round : G.Spec) : S := (.ite (.and (.app sNot (.cons (.app (sIsi .int) (.cons (.v 3) .nil)) .nil)) (.app sEq (.cons (.app sIx (.cons (.v 3) (.cons (.c (.int 0)) .nil))) (.cons (.c (.str "link")) .nil)))) (c_run_history_3 p_check_history p_link p_run_round) (.seq (c_run_history_4 p_check_history p_link p_run_round) (c_run_history_5 p_check_history p_link p_run_round)))
def c_run_history_7 (p_check_history : G.Spec) (p_link : G.Spec) (p_run_round : G.Spec) : S := (.fr (.nm 3) iSeq (.cons (.v 1) .nil) (c_run_history_6 p_check_history p_link p_run_round))
def c_run_history_8 (p_check_history : G.Spec) (p_link : G.Spec) (p_run_round : G.Spec) : S := (.ret (.app sTup (.cons (.v 0) (.cons (.v 2) .nil))))
def c_run_history (p_check_history : G.Spec) (p_link : G.Spec) (p_run_round : G.Spec) : S := (.seq (c_run_history_1 p_check_history p_link p_run_round) (.seq (c_run_history_2 p_check_history p_link p_run_round) (.seq (c_run_history_7 p_check_history p_link p_run_round) (c_run_history_8 p_check_history p_link p_run_round))))
def c_l_step_1 (p__law_of : G.Spec) (p__law_step : G.Spec) (p__law_take : G.Spec) : S := (.ret (.app p__law_take (.cons (.v 0) (.cons (.v 1) .nil))))
def c_l_step_2 (p__law_of : G.Spec) (p__law_step : G.Spec) (p__law_take : G.Spec) : S := (.ite (.or (.app sEq (.cons (.v 2) (.cons (.c (.int 0)) .nil))) (.app sGt (.cons (.app p__law_take (.cons (.v 0) (.cons (.c (.int 3)) .nil))) (.cons (.c (.int 0)) .nil)))) (c_l_step_1 p__law_of p__law_step p__law_take) .skip)
def c_l_step_3 (p__law_of : G.Spec) (p__law_step : G.Spec) (p__law_take : G.Spec) : S := (.asg (.nm 3) (.app p__law_of (.cons (.v 0) (.cons (.app sList (.cons (.c (.int 0)) (.cons (.c (.int 1)) (.cons (.c (.int 2)) (.cons (.c (.int 3)) (.cons (.app p__law_take (.cons (.v 0) (.cons (.c (.int 9)) .nil))) (.cons (.app sPow (.cons (.c (.int 10)) (.cons (.c (.int 30)) .nil))) (.cons (.app p__law_take (.cons (.v 0) (.cons (.app sPow (.cons (.c (.int 10)) (.cons (.c (.int 30)) .nil))) .nil))) .nil)))))))) .nil))))
def c_l_step_4 (p__law_of : G.Spec) (p__law_step : G.Spec) (p__law_take : G.Spec) : S := (.asg (.nm 4) (.comp false [5] (.nm 5) iRng1 (.cons (.app p__law_take (.cons (.v 0) (.cons (.c (.int 4)) .nil))) .nil) (.c (.bl true)) (.app p__law_step (.cons (.v 0) (.cons (.v 1) (.cons (.app sSub (.cons (.v 2) (.cons (.c (.int 1)) .nil))) .nil))))))
def c_l_step_5 (p__law_of : G.Spec) (p__law_step : G.Spec) (p__law_take : G.Spec) : S := (.ret (.app sTup (.cons (.c (.str "repeat")) (.cons (.v 3) (.cons (.app p__law_of (.cons (.v 0) (.cons (.app sList (.cons (.app sTupOf (.cons (.v 4) .nil)) (.cons (.v 4) .nil))) .nil))) .nil)))))
def c_l_step (p__law_of : G.Spec) (p__law_step : G.Spec) (p__law_take : G.Spec) : S := (.seq (c_l_step_2 p__law_of p__law_step p__law_take) (.seq (c_l_step_3 p__law_of p__law_step p__law_take) (.seq (c_l_step_4 p__law_of p__law_step p__law_take) (c_l_step_5 p__law_of p__law_step p__law_take))))
def c_with_tuples_1 (p_with_tuples : G.Spec) : S := (.ret (.v 0))
def c_with_tuples_2 (p_with_tuples : G.Spec) : S := (.ite (.or (.app (sIsi .int) (.cons (.v 0) .nil)) (.app sEq (.cons (.app sIx (.cons (.v 0) (.cons (.c (.int 0)) .nil))) (.cons (.c (.str "link")) .nil)))) (c_with_tuples_1 p_with_tuples) .skip)
def c_with_tuples_3 (p_with_tuples : G.Spec) : S := (.ret (.app sTup (.cons (.c (.str "repeat")) (.cons (.app sIx (.cons (.v 0) (.cons (.c (.int 1)) .nil))) (.cons (.app sTupOf (.cons (.comp false [1] (.nm 1) iSeq (.cons (.app sIx (.cons (.v 0) (.cons (.c (.int 2)) .nil))) .nil) (.c (.bl true)) (.app p_with_tuples (.cons (.v 1) .nil))) .nil)) .nil)))))
def c_with_tuples (p_with_tuples : G.Spec) : S := (.seq (c_with_tuples_2 p_with_tuples) (c_with_tuples_3 p_with_tuples))
def c_epochs_1 (p_check_history : G.Spec) (p_with_tuples : G.Spec) : S := (.exp (.app p_check_history (.cons (.v 0) .nil)))
def c_epochs_2 (p_check_history : G.Spec) (p_with_tuples : G.Spec) : S := (.asg (.nm 1) (.app sListM (.cons (.app sListM .nil) .nil)))
def c_epochs_3 (p_check_history : G.Spec) (p_with_tuples : G.Spec) : S := (.exp (.meth chkL sAppend (.v 1) (.cons (.app sListM .nil) .nil)))
def c_epochs_4 (p_check_history : G.Spec) (p_with_tuples : G.Spec) : S := (.exp (.meth chkL sAppend (.app sIx (.cons (.v 1) (.cons (.app sNeg (.cons (.c (.int 1)) .nil)) .nil))) (.cons (.app p_with_tuples (.cons (.v 2) .nil)) .nil)))
def c_epochs_5 (p_check_history : G.Spec) (p_with_tuples : G.Spec) : S := (.ite (.and (.app sNot (.cons (.app (sIsi .int) (.cons (.v 2) .nil)) .nil)) (.app sEq (.cons (.app sIx (.cons (.v 2) (.cons (.c (.int 0)) .nil))) (.cons (.c (.str "link")) .nil)))) (c_epochs_3 p_check_history p_with_tuples) (c_epochs_4 p_check_history p_with_tuples))
def c_epochs_6 (p_check_history : G.Spec) (p_with_tuples : G.Spec) : S := (.fr (.nm 2) iSeq (.cons (.v 0) .nil) (c_epochs_5 p_check_history p_with_tuples))
def c_epochs_7 (p_check_history : G.Spec) (p_with_tuples : G.Spec) : S := (.ret (.v 1))
def c_epochs (p_check_history : G.Spec) (p_with_tuples : G.Spec) : S := (.seq (c_epochs_1 p_check_history p_with_tuples) (.seq (c_epochs_2 p_check_history p_with_tuples) (.seq (c_epochs_6 p_check_history p_with_tuples) (.seq (.frz 1) (c_epochs_7 p_check_history p_with_tuples)))))
def c_count_steps_1 (p_count_steps : G.Spec) : S := (.asg (.nm 1) (.c (.int 0)))
def c_count_steps_2 (p_count_steps : G.Spec) : S := (.asg (.nm 1) (.app sIAdd (.cons (.v 1) (.cons (.c (.int 1)) .nil))))
def c_count_steps_3 (p_count_steps : G.Spec) : S := (.asg (.nm 1) (.app sIAdd (.cons (.v 1) (.cons (.app sMul (.cons (.app sIx (.cons (.v 2) (.cons (.c (.int 1)) .nil))) (.cons (.app p_count_steps (.cons (.app sIx (.cons (.v 2) (.cons (.c (.int 2)) .nil))) .nil)) .nil))) .nil))))
def c_count_steps_4 (p_count_steps : G.Spec) : S := (.ite (.app sEq (.cons (.app sIx (.cons (.v 2) (.cons (.c (.int 0)) .nil))) (.cons (.c (.str "repeat")) .nil))) (c_count_steps_3 p_count_steps) .skip)
def c_count_steps_5 (p_count_steps : G.Spec) : S := (.ite (.app (sIsi .int) (.cons (.v 2) .nil)) (c_count_steps_2 p_count_steps) (c_count_steps_4 p_count_steps))
def c_count_steps_6 (p_count_steps : G.Spec) : S := (.fr (.nm 2) iSeq (.cons (.v 0) .nil) (c_count_steps_5 p_count_steps))
def c_count_steps_7 (p_count_steps : G.Spec) : S := (.ret (.v 1))
def c_count_steps (p_count_steps : G.Spec) : S := (.seq (c_count_steps_1 p_count_steps) (.seq (c_count_steps_6 p_count_steps) (c_count_steps_7 p_count_steps)))
def c_count_finds_1 (p_check_history : G.Spec) (p_count_steps : G.Spec) : S := (.exp (.app p_check_history (.cons (.v 0) .nil)))
def c_count_finds_2 (p_check_history : G.Spec) (p_count_steps : G.Spec) : S := (.ret (.app p_count_steps (.cons (.v 0) .nil)))
def c_count_finds (p_check_history : G.Spec) (p_count_steps : G.Spec) : S := (.seq (c_count_finds_1 p_check_history p_count_steps) (c_count_finds_2 p_check_history p_count_steps))
def c_unrolled_1 (p_count_steps : G.Spec) (p_unrolled : G.Spec) : S := (.asg (.nm 1) (.app sListM .nil))
def c_unrolled_2 (p_count_steps : G.Spec) (p_unrolled : G.Spec) : S := (.exp (.meth chkL sAppend (.v 1) (.cons (.v 2) .nil)))
def c_unrolled_3 (p_count_steps : G.Spec) (p_unrolled : G.Spec) : S := (.exp (.meth chkL sExtend (.v 1) (.cons (.app sRep (.cons (.app p_unrolled (.cons (.app sIx (.cons (.v 2) (.cons (.c (.int 2)) .nil))) .nil)) (.cons (.app sIx (.cons (.v 2) (.cons (.c (.int 1)) .nil))) .nil))) .nil)))
def c_unrolled_4 (p_count_steps : G.Spec) (p_unrolled : G.Spec) : S := (.ite (.app sGt (.cons (.app sMul (.cons (.app sIx (.cons (.v 2) (.cons (.c (.int 1)) .nil))) (.cons (.app p_count_steps (.cons (.app sIx (.cons (.v 2) (.cons (.c (.int 2)) .nil))) .nil)) .nil))) (.cons (.c (.int 0)) .nil))) (c_unrolled_3 p_count_steps p_unrolled) .skip)
def c_unrolled_5 (p_count_steps : G.Spec) (p_unrolled : G.Spec) : S := (.ite (.or (.app (sIsi .int) (.cons (.v 2) .nil)) (.app sEq (.cons (.app sIx (.cons (.v 2) (.cons (.c (.int 0)) .nil))) (.cons (.c (.str "link")) .nil)))) (c_unrolled_2 p_count_steps p_unrolled) (c_unrolled_4 p_count_steps p_unrolled))
def c_unrolled_6 (p_count_steps : G.Spec) (p_unrolled : G.Spec) : S := (.fr (.nm 2) iSeq (.cons (.v 0) .nil) (c_unrolled_5 p_count_steps p_unrolled))
def c_unrolled_7 (p_count_steps : G.Spec) (p_unrolled : G.Spec) : S := (.ret (.v 1))
def c_unrolled (p_count_steps : G.Spec) (p_unrolled : G.Spec) : S := (.seq (c_unrolled_1 p_count_steps p_unrolled) (.seq (c_unrolled_6 p_count_steps p_unrolled) (.seq (.frz 1) (c_unrolled_7 p_count_steps p_unrolled))))
def c_unrollX_1 (p_count_finds : G.Spec) (p_unrolled : G.Spec) : S := (.rse (fun ds => er "TooLong" "limit" (ds.headD .non)) (.cons (.v 1) .nil))
def c_unrollX_2 (p_count_finds : G.Spec) (p_unrolled : G.Spec) : S := (.ite (.app sGt (.cons (.app p_count_finds (.cons (.v 0) .nil)) (.cons (.v 1) .nil))) (c_unrollX_1 p_count_finds p_unrolled) .skip)
def c_unrollX_3 (p_count_finds : G.Spec) (p_unrolled : G.Spec) : S := (.ret (.app p_unrolled (.cons (.v 0) .nil)))
def c_unrollX (p_count_finds : G.Spec) (p_unrolled : G.Spec) : S := (.seq (c_unrollX_2 p_count_finds p_unrolled) (c_unrollX_3 p_count_finds p_unrolled))
def c_l_rounds_1 (p__law_step : G.Spec) (p__law_take : G.Spec) : S := (.ret (.comp false [4] (.nm 4) iRng1 (.cons (.app p__law_take (.cons (.v 0) (.cons (.app sAdd (.cons (.v 2) (.cons (.c (.int 1)) .nil))) .nil))) .nil) (.c (.bl true)) (.app p__law_step (.cons (.v 0) (.cons (.v 1) (.cons (.v 3) .nil))))))
def c_l_rounds (p__law_step : G.Spec) (p__law_take : G.Spec) : S := (c_l_rounds_1 p__law_step p__law_take)
def c_note_found_1 (p_note_found : G.Spec) : S := (.exp (.meth chkL sAppend (.v 1) (.cons (.v 2) .nil)))
def c_note_found_2 (p_note_found : G.Spec) : S := (.ite (.app sNotIn (.cons (.v 2) (.cons (.v 1) .nil))) (c_note_found_1 p_note_found) .skip)
def c_note_found_3 (p_note_found : G.Spec) : S := (.exp (.app p_note_found (.cons (.app sIx (.cons (.v 2) (.cons (.c (.int 2)) .nil))) (.cons (.v 1) .nil))))
def c_note_found_4 (p_note_found : G.Spec) : S := (.ite (.and (.app sEq (.cons (.app sIx (.cons (.v 2) (.cons (.c (.int 0)) .nil))) (.cons (.c (.str "repeat")) .nil))) (.app sGt (.cons (.app sIx (.cons (.v 2) (.cons (.c (.int 1)) .nil))) (.cons (.c (.int 0)) .nil)))) (c_note_found_3 p_note_found) .skip)
def c_note_found_5 (p_note_found : G.Spec) : S := (.ite (.app (sIsi .int) (.cons (.v 2) .nil)) (c_note_found_2 p_note_found) (c_note_found_4 p_note_found))
def c_note_found_6 (p_note_found : G.Spec) : S := (.fr (.nm 2) iSeq (.cons (.v 0) .nil) (c_note_found_5 p_note_found))
def c_note_found (p_note_found : G.Spec) : S := (c_note_found_6 p_note_found)
def c_effect_differenceX_1 (p_found_nodes : G.Spec) : S := (.asg (.tup (.cons (.nm 3) (.cons (.nm 4) .nil))) (.app sTup (.cons (.app p_found_nodes (.cons (.v 0) .nil)) (.cons (.app p_found_nodes (.cons (.v 1) .nil)) .nil))))
def c_effect_differenceX_2 (p_found_nodes : G.Spec) : S := (.rse (fun ds => er "NoNode" "node" (ds.headD .non)) (.cons (.v 6) .nil))
def c_effect_differenceX_3 (p_found_nodes : G.Spec) : S := (.ite (.app sNot (.cons (.chain sLe sLt (.c (.int 0)) (.v 6) (.v 2)) .nil)) (c_effect_differenceX_2 p_found_nodes) .skip)
def c_effect_differenceX_4 (p_found_nodes : G.Spec) : S := (.fr (.nm 6) iSeq (.cons (.v 5) .nil) (c_effect_differenceX_3 p_found_nodes))
def c_effect_differenceX_5 (p_found_nodes : G.Spec) : S := (.fr (.nm 5) iSeq (.cons (.app sTup (.cons (.v 3) (.cons (.v 4) .nil))) .nil) (c_effect_differenceX_4 p_found_nodes))
def c_effect_differenceX_6 (p_found_nodes : G.Spec) : S := (.asg (.nm 7) (.comp false [6] (.nm 6) iRng1 (.cons (.v 2) .nil) (.app sNe (.cons (.app sIn (.cons (.v 6) (.cons (.v 3) .nil))) (.cons (.app sIn (.cons (.v 6) (.cons (.v 4) .nil))) .nil))) (.v 6)))
def c_effect_differenceX_7 (p_found_nodes : G.Spec) : S := (.ret (.c .non))
def c_effect_differenceX_8 (p_found_nodes : G.Spec) : S := (.ite (.or (.app sEq (.cons (.v 7) (.cons (.app sList .nil) .nil))) (.app sLt (.cons (.v 2) (.cons (.c (.int 3)) .nil)))) (c_effect_differenceX_7 p_found_nodes) .skip)
def c_effect_differenceX_9 (p_found_nodes : G.Spec) : S := (.asg (.nm 6) (.app sIx (.cons (.v 7) (.cons (.c (.int 0)) .nil))))
def c_effect_differenceX_10 (p_found_nodes : G.Spec) : S := (.asg (.tup (.cons (.nm 8) (.cons (.nm 9) (.cons (.nm 10) .nil)))) (.app (sStar 3 2) (.cons (.comp false [11] (.nm 11) iRng1 (.cons (.v 2) .nil) (.app sNe (.cons (.v 11) (.cons (.v 6) .nil))) (.v 11)) .nil)))
def c_effect_differenceX_11 (p_found_nodes : G.Spec) : S := (.ret (.app sTup (.cons (.app sTupOf (.cons (.comp false [11] (.nm 11) iRng1 (.cons (.v 2) .nil) (.c (.bl true)) (.ite (.app sEq (.cons (.v 11) (.cons (.v 6) .nil))) (.v 9) (.v 8))) .nil)) (.cons (.v 6) .nil))))
def c_effect_differenceX (p_found_nodes : G.Spec) : S := (.seq (c_effect_differenceX_1 p_found_nodes) (.seq (c_effect_differenceX_5 p_found_nodes) (.seq (c_effect_differenceX_6 p_found_nodes) (.seq (c_effect_differenceX_8 p_found_nodes) (.seq (c_effect_differenceX_9 p_found_nodes) (.seq (c_effect_differenceX_10 p_found_nodes) (c_effect_differenceX_11 p_found_nodes)))))))
end G

/-! GDef: calls without arguments; calls that leave keyword-only defaults out. -/
namespace G
open PySem PySem.Spec L2 PyProof.Rows
section
variable {X : Cx} {W : WX} {pos p : Pos} {e : Expr} {es : List Expr} {ces : Es} {sp : Spec} {x : Str} {k n : Nat}
/-- a def whose keyword-only parameters are left out: its promise over the others -/
structure FnD (P : Program) (w : World) (K : PySem.W.Frag) (mg : Str → Option Value) (base : Heap) (x : Str) (k n : Nat) (sp : Spec) : Prop where
  ex : ∃ f fd ps spF dv vs ds, mg x = some (.ref f) ∧ FnOk P w K mg base (L2N.CX P w) k f fd ps (lift K mg spF) ∧ PySem.W.keepIn K (.ref f) = true ∧ Binds K fd ps ds ∧ Vals vs ds ∧ (∀ wd, RpL K wd dv vs) ∧ ∀ us cs Q PX, sp us cs Q PX → spF (us ++ dv) cs Q PX
theorem j_callD (F : FnD X.prog X.w X.K X.mg X.base x k n sp) (hr : Room k X.A) (tk : L2N.Takes X W) (hg : Gl X x) (ha : JA X W (e :: es) ces) (hdb : (x == ("__debug__" : Str)) = false := by decide)
    (he : starEach (e :: es) X.env = (false, eval e X.env) :: starEach es X.env := by rfl) (hpl : (backTo pos (starEach es X.env)).any (·.1) = false := by rfl) : JE X W (.Call (.Name x p) (e :: es) [] pos) (.app sp ces) := by
  obtain ⟨f, fd, ps, spF, dv, vs0, ds0, hm, ok, kp, b, hv, hr0, hsp⟩ := F.ex
  obtain ⟨ta, p1, r1⟩ := ha
  refine ⟨_, pe_callSD ok hr hg hm kp b hv (fun σ => L2N.passAt tk σ) p1 hdb he hpl, fun wd F τ cs σ H P PX Q R rs h q x => ?_⟩
  refine r1 wd F τ cs σ H _ PX _ R rs h (fun wd1 ds c1 vs H1 l1 R1 rv h1 => ?_) x
  exact ⟨wd1, F, c1, ds ++ dv, P, PX, R1, rv.append (hr0 wd1), hsp _ _ _ _ h1, q.mono l1, fun wd' y cs' cls dd H' l R' rx z => x wd' y cs' cls dd H' (l1.trans l) R' rx z⟩
end
section
variable {P : Program} {w : World} {K : PySem.W.Frag} {mg : Str → Option Value} {base : Heap} {x qual : Str} {params : Arguments} {body : List Stmt} {scope : Scope} {f : Addr} {fd : FuncData} {ps : List Str} {k n : Nat} {sp spF : Spec} {kws : List (Str × V)} {ks : List Str} {ix : List Nat}
/-- one keyword-only whole number -/
theorem fnd_mk1 {y : Str} {i : Int} (FD : FunD K x qual params body scope [] [(y, .int i)] f fd) (hm : mg x = some (.ref f)) (ok : FnOk P w K mg base (L2N.CX P w) k f fd ps (lift K mg spF)) (hn : n + 1 = ps.length)
    (hb : ∀ (D : Addr) (doc pm : Value) (an : Option Addr) (cdv ct : Value) (us ks : List Value), us.length = n → ks.length = 1 → KwChain D ([y].zip ks) (bindArgs (PySem.W.fnOf x qual params body scope .none (.ref D) doc pm an cdv ct) ⟨us, []⟩) (ps.zip (us ++ ks)))
    (hsp : ∀ us cs Q PX, sp us cs Q PX → spF (us ++ [.int i]) cs Q PX) : FnD P w K mg base x k n sp := by
  obtain ⟨ds, hv, b⟩ := FD.binds0 n (by simp) hn hb
  exact ⟨f, fd, ps, spF, [.int i], [.int i], ds, hm, ok, FD.kp, b, hv, fun wd => ⟨_, _, rfl, rfl, rfl⟩, hsp⟩
end
end G

/-! GEndG: the law's end where the law itself knows that nothing is being shown (no repr is under way). -/
namespace G
open PySem PySem.Spec PyProof.Rows L2
/-- a def's promise in places where no repr is under way -/
structure FnOkG (P : Program) (w : World) (K : PySem.W.Frag) (mg : Str → Option Value) (base : Heap) (CX : CXT) (k : Nat) (f : Addr) (fd : FuncData) (ps : List Str) (sp : Sp) : Prop where
  run : ∀ (A : Around), A.guards = some [] → ∀ (outer : List Env) (s : Shared) (H : Hp) (args : Args) (us : List Value) (vs : List V) (Q : VK) (E : XK), Room k A → Env0 P w K mg base A outer s H →
    BindsTo s fd args (ps.zip us) → Vals vs us → sp vs H Q E → codeAny (model P w) A (.call (.ref f) args) (CR CX outer P w H s Q E) s
section
variable {P : Program} {w : World} {K : PySem.W.Frag} {mg : Str → Option Value} {base : Heap} {CX : CXT} {k : Nat} {x qual : Str} {params : Arguments} {body : List Stmt} {scope : Scope} {fd : FuncData} {dvs : List V} {kws : List (Str × V)} {N ps : List Str}
theorem FnOkG.of {f : Addr} {sp : Sp} (F : FnOk P w K mg base CX k f fd ps sp) : FnOkG P w K mg base CX k f fd ps sp := ⟨fun A _ => F.run A⟩
theorem fnG_of {f : Addr} {sp : Sp} {n : Str} {u0 kV d0 pm cdv ct oc : Value} {an od : Option Addr} {osl : Array (Option Value)}
    (lk : K.lookup f = some ⟨oc, od, .func (PySem.W.fnOf n qual params body scope u0 kV d0 pm an cdv ct), osl⟩) (hcd : PySem.W.codeIn K cdv qual = true) (S : FnScope N ps scope)
    (len : ∀ vs H Q E, sp vs H Q E → vs.length = ps.length)
    (hb : ∀ (A : Around), A.guards = some [] → ∀ (outer : List Env) (s : Shared) (H : Hp) (vs : List V) (Q : VK) (E : XK), Room k (A.deeper (envOfC qual scope s.heap.objs.size f cdv)) → sp vs H Q E →
      ∃ t, PSs (cxOf CX P w K mg base N qual scope f cdv A outer s H E) body t ∧ t { nx := fun _ H' => Q .non H', rt := Q } (L2.start N vs) H) :
    FnOkG P w K mg base CX (k + 1) f (PySem.W.fnOf n qual params body scope u0 kV d0 pm an cdv ct) ps sp := by
  constructor
  intro A hA outer s H args us vs Q E hr e0 bind rv hsp
  have lv := len _ _ _ _ hsp
  have up : ∀ b o, base.get? b = some o → s.heap.get? b = some o := fun b o e => (e0.bs b o e).1
  have KX : K.In s.heap := e0.mod.kin.keeps up
  have noL := e0.mod.nolimit.keeps up
  have kinds : ∀ y ∈ ps.zip us, scope.names.lookup y.1 = some .local ∨ (scope.names.lookup y.1 = some .cell ∧ ((cellsFrom (s.heap.objs.size + 1) scope.names []).lookup y.1).isSome = true) := by
    rintro ⟨m, v⟩ hy
    exact (S.par m (List.of_mem_zip hy).1).imp id fun q => ⟨q, PySem.W.cellsFrom_some _ _ _ (.inl q)⟩
  refine codeAny_call_function hr.depth (KX _ _ lk) rfl S.co S.gen rfl (PySem.W.codeRec_of KX hcd) (bind _ _ _ _ ?_)
  refine wpAny_newFunctionEnv_cells S.kind kinds fun env he s1 xx => ?_
  subst he
  refine ⟨noL.keeps xx.toInCall.keep, codeAny_func ?_⟩
  obtain ⟨t, pt, hq⟩ := hb A hA outer s H vs Q E (hr.deeper _) hsp
  have I := inv_start (E := E) (CX := CX) S hr.hd e0 lv rv xx
  refine wpAny_mono (pt.run [] s1 _ H _ I hq) (fun fl s' hs => ?_) fun e s' hs => hs
  cases fl with
  | ret u =>
    obtain ⟨v, σ', H', J, rv, q⟩ := hs
    exact ⟨v, H', J.os, J.bare, J.base, J.hok, rv, q⟩
  | next =>
    obtain ⟨σ', H', J, q⟩ := hs
    exact ⟨V.non, H', J.os, J.bare, J.base, J.hok, rfl, q⟩
  | brk => exact hs.choose_spec.choose_spec.2.elim
  | cont => exact hs.choose_spec.choose_spec.2.elim
/-- the table of a def's own code object -/
theorem lamK_of {p : Str × Option Str} {n : Str} {u0 kV d0 pm cdv ct oc : Value} {an od : Option Addr} {osl : Array (Option Value)}
    (lk : K.lookup (He.fAd K p) = some ⟨oc, od, .func (PySem.W.fnOf n qual params body scope u0 kV d0 pm an cdv ct), osl⟩) (hcd : PySem.W.codeIn K cdv qual = true)
    (hU : tabsU K = true) (hO : K.lookup (He.cT K p).2 = none) (hT : LamX.TabB base mg (He.cT K p).1 (He.cT K p).2) : LamK K mg base cdv qual := by
  obtain ⟨c, ec⟩ := He.codeIn_ref hcd
  have e1 : He.codeOf K p = c := He.codeOf_eq lk ec
  have hO' : K.lookup (He.tabOf K c) = none := by
    rw [← e1]
    exact hO
  have hmem : (He.tabOf K c, qual ++ ".<locals>." ++ "<lambda>") ∈ tabsOf K := by
    refine List.mem_filterMap.mpr ⟨_, mem_of_lk lk, ?_⟩
    show (match cdv with
      | .ref c => if (K.lookup (He.tabOf K c)).isNone then some (He.tabOf K c, qual ++ ".<locals>." ++ "<lambda>") else none
      | _ => none) = _
    rw [ec]
    show (if (K.lookup (He.tabOf K c)).isNone then some (He.tabOf K c, qual ++ ".<locals>." ++ "<lambda>") else none) = _
    rw [hO']
    rfl
  refine ⟨c, He.tabOf K c, ?_, ec, hmem, fun r hr h => ?_⟩
  · have hT : LamX.TabB base mg (He.codeOf K p) (He.tabOf K (He.codeOf K p)) := hT
    rw [e1] at hT
    exact hT
  · have z := List.all_eq_true.mp (List.all_eq_true.mp hU _ hr) _ hmem
    simp only [Bool.or_eq_true, Bool.not_eq_true', decide_eq_true_eq] at z
    rcases z with z | z
    · rw [h] at z
      simp at z
    · exact z
theorem fnG_body {f : Addr} {cdv : Value} {A : Around} {outer : List Env} {s : Shared} {H : Hp} {vs : List V} {Q : VK} {E : XK} {sp : Spec} {core : S} (S : FnScope N ps scope) (hr : Room k (A.deeper (envOfC qual scope s.heap.objs.size f cdv)))
    (hb : Ct (cxOf (L2N.CX P w) P w K mg base N qual scope f cdv A outer s H E) (wxOf E) k → JSs (cxOf (L2N.CX P w) P w K mg base N qual scope f cdv A outer s H E) (wxOf E) body core)
    (ok : okFn N.length core sp) (h : lift K mg sp vs H Q E) : ∃ t, PSs (cxOf (L2N.CX P w) P w K mg base N qual scope f cdv A outer s H E) body t ∧ t { nx := fun _ H' => Q .non H', rt := Q } (L2.start N vs) H := by
  obtain ⟨wd, F, cs, ds, PD, PX, R, r, hs, q, x⟩ := h
  obtain ⟨t, p1, r1⟩ := hb ⟨rfl, S.nd, passes_of rfl, L2N.takes_of rfl rfl rfl rfl, hr⟩
  refine ⟨t, p1, r1 wd F _ cs _ H _ _ R (rs_start r) (ok ds cs PD PX hs) ?_⟩
  exact ⟨fun wd' τ cs' σ H' l R' rs' h' => q wd' .non cs' .non H' l R' rfl h', fun _ _ _ _ _ _ _ _ z => z.elim, fun _ _ _ _ _ _ _ _ z => z.elim, q, fun wd' y τ cs' σ cls dd H' l R' rs' rx z => x wd' y cs' cls dd H' l R' rx z⟩
theorem fnOkG_ofC {p : Str × Option Str} {sp : Spec} {core : S} (FD : FunD K x qual params body scope dvs kws (He.fAd K p) fd) (S : FnScope N ps scope) (len : ∀ ds cs Q PX, sp ds cs Q PX → ds.length = ps.length)
    (hU : tabsU K = true) (hO : K.lookup (He.cT K p).2 = none) (hT : LamX.TabB base mg (He.cT K p).1 (He.cT K p).2)
    (hb : ∀ (cdv : Value) (A : Around) (outer : List Env) (s : Shared) (H : Hp) (E : XK), A.guards = some [] → LamK K mg base cdv qual → Ct (cxOf (L2N.CX P w) P w K mg base N qual scope (He.fAd K p) cdv A outer s H E) (wxOf E) k → ∃ core, JSs (cxOf (L2N.CX P w) P w K mg base N qual scope (He.fAd K p) cdv A outer s H E) (wxOf E) body core ∧ okFn N.length core sp) :
    FnOkG P w K mg base (L2N.CX P w) (k + 1) (He.fAd K p) fd ps (lift K mg sp) := by
  obtain ⟨oc, od, dV, kV, doc, pm, an, cdv, ct, osl, rfl, lk, hcd, _, _⟩ := FD.ex
  refine fnG_of lk hcd S (fun vs H Q E h => ?_) fun A hA outer s H vs Q E hr h => ?_
  · obtain ⟨wd, F, cs, ds, PD, PX, R, r, s, q⟩ := h
    rw [r.length]
    exact len _ _ _ _ s
  · have C : Ct (cxOf (L2N.CX P w) P w K mg base N qual scope (He.fAd K p) cdv A outer s H E) (wxOf E) k := ⟨rfl, S.nd, passes_of rfl, L2N.takes_of rfl rfl rfl rfl, hr⟩
    obtain ⟨core, h1, h2⟩ := hb cdv A outer s H E hA (lamK_of lk hcd hU hO hT) C
    exact fnG_body S hr (fun _ => h1) h2 h
end
/-! ### the law's call -/
/-- what the abstract heap at the start hides: the script and the tables, nothing else -/
structure StartH (K : PySem.W.Frag) (s : Shared) (a : Addr) (T : List Addr) (H : Hp) : Prop where
  tb : ∀ b ∈ T, H b = some (.tbl #[])
  ok : ∀ b, H b = none ∨ b ∈ T ∨ ∃ o xs, H b = some (.frz o (.lst xs))
  at_ : ∀ b, H b ≠ none → b = a ∨ b ∈ T
  lk : H a ≠ none → K.lookup a = none
section
variable {P : Program} {w : World} {K : PySem.W.Frag} {mg mb : Str → Option Value} {CX : CXT} {k : Nat} {fa a : Addr} {cs : List (Addr × Addr)} {fd : FuncData} {x : Str} {sp : Sp} {s₁ : Shared} {vs : List Value} {ns : List Int}
theorem law_startG (KX : K.In s₁.heap) (hns : s₁.heap.Ns mainGlobals mg) (hb : s₁.heap.Ns builtinsNs mb) (hbb : ∀ x : Str, x ≠ "__name__" → mb x = bootBuiltins x) (hlim : s₁.heap.NoLimit) (hg : s₁.gens = #[])
    (hT : ∀ p ∈ cs, s₁.heap.get? p.2 = some { cls := .none, data := .fields #[] }) (nT : ∀ p ∈ cs, K.lookup p.2 = none) (C : ∀ p ∈ cs, PySem.W.CodeHd s₁.heap p.1 p.2)
    (hbm : ∃ (bm : Addr) (ob : Obj), mg "__builtins__" = some (.ref bm) ∧ bm ≠ builtinsNs ∧ s₁.heap.get? bm = some ob ∧ ob.cls = .type "module" ∧ ob.dict = some builtinsNs ∧ ob.data = .plain)
    (ha : s₁.heap.get? a = some { cls := .type "list", data := .seq vs.toArray }) {H : Hp} (Z : StartH K s₁ a (cs.map (·.2)) H) (hok : HOk P w H s₁.heap) :
    Env0 P w K mg (hidT s₁.heap H) callerA [] s₁ H ∧ K.In (hidT s₁.heap H) ∧ (hidT s₁.heap H).Ns mainGlobals mg ∧ ∀ p ∈ cs, LamX.TabB (hidT s₁.heap H) mg p.1 p.2 := by
  have tT : ∀ b ∈ cs.map (·.2), s₁.heap.get? b = some { cls := .none, data := .fields #[] } := by
    intro b hb
    obtain ⟨p, hp, rfl⟩ := List.mem_map.mp hb
    exact hT p hp
  have inB : ∀ {b : Addr} {o : Obj}, s₁.heap.get? b = some o → H b = none → (hidT s₁.heap H).get? b = some o := fun e n => hidT_get e n
  have hide : ∀ {b : Addr} {o : Obj}, s₁.heap.get? b = some o → (∀ vs n, o.data ≠ .seq vs n) → o.data ≠ .fields #[] → H b = none := by
    intro b o e h1 h2
    cases q : H b with
    | none => rfl
    | some u =>
      rcases Z.at_ b (by rw [q]; simp) with rfl | hb
      · rw [ha] at e
        cases e
        exact absurd rfl (h1 _ _)
      · rw [tT b hb] at e
        cases e
        exact absurd rfl h2
  have dicts : ∀ {b : Addr} {o : Obj} {es : Array DictEntry} {ep : Nat}, s₁.heap.get? b = some o → o.data = .dict es ep → H b = none := by
    intro b o es ep e d
    refine hide e (fun vs n z => ?_) fun z => ?_ <;> rw [d] at z <;> cases z
  have nsK : ∀ {b : Addr} {m : Str → Option Value}, s₁.heap.Ns b m → (hidT s₁.heap H).Ns b m := by
    rintro b m ⟨o, es, ep, e, d, r⟩
    exact ⟨o, es, ep, inB e (dicts e d), d, r⟩
  have hK : K.In (hidT s₁.heap H) := by
    intro b o e
    refine inB (KX b o e) ?_
    cases q : H b with
    | none => rfl
    | some u =>
      have nn : H b ≠ none := by rw [q]; simp
      rcases Z.at_ b nn with rfl | hb
      · rw [Z.lk nn] at e
        cases e
      · obtain ⟨p, hp, ep⟩ := List.mem_map.mp hb
        rw [← ep, nT p hp] at e
        cases e
  have hN := nsK hns
  have hM : L2.Mod K mg (hidT s₁.heap H) := by
    obtain ⟨mc, h1, h2⟩ := hlim
    exact ⟨hK, hN, ⟨mb, nsK hb, hbb⟩, ⟨mc, nsK h1, h2⟩⟩
  refine ⟨⟨rfl, hM, fun b o e => of_hidT e, Nat.le_of_eq (hidT_size _ _), trivial, fun b hb => ?_, hok, .of_eq hg⟩, hK, hN, fun p hp => ⟨?_, ?_, fun z => ?_⟩⟩
  · exact absurd (show b ∈ ([] : List Addr) from hb) List.not_mem_nil
  · obtain ⟨o, us, file, tf, flags, tg, inF, text, tt, e1, r1, r2, r3, rest⟩ := C p hp
    refine ⟨o, us, file, tf, flags, tg, inF, text, tt, inB e1 (hide e1 (fun vs n z => ?_) fun z => ?_), r1, r2, r3, rest⟩
    · rw [r2] at z
      cases z
    · rw [r2] at z
      cases z
      simp at r3
  · obtain ⟨bm, ob, b1, b2, b3, b4, b5, b6⟩ := hbm
    refine ⟨bm, ob, b1, b2, fun q => ?_, fun q => ?_, inB b3 (hide b3 (fun vs n z => ?_) fun z => ?_), b4, b5, b6⟩
    · obtain ⟨o, es, ep, e, hd, _⟩ := hns
      rw [q, e] at b3
      cases b3
      rw [hd] at b6
      cases b6
    · rw [q, hT p hp] at b3
      cases b3
      cases b6
    · rw [b6] at z
      cases z
    · rw [b6] at z
      cases z
  · obtain ⟨o, es, ep, e, hd, _⟩ := hns
    rw [z, hT p hp] at e
    cases e
    cases hd
theorem law_endG (hT : ∀ p ∈ cs, s₁.heap.get? p.2 = some { cls := .none, data := .fields #[] }) (C : ∀ p ∈ cs, PySem.W.CodeHd s₁.heap p.1 p.2) {H : Hp} (Z : StartH K s₁ a (cs.map (·.2)) H) (hok : HOk P w H s₁.heap) {r : Result} {s' : Shared}
    (hCX : ∀ e s', CX [] H s₁ (fun _ _ _ => False) e s' → False) (h : CR CX [] P w H s₁ (fun v _ => v = .bl true) (fun _ _ _ => False) r s') : r = .ok (.ret (.bool true)) ∧ OldK s₁.heap s'.heap ∧ s'.os = s₁.os ∧ AllBare s'.gens := by
  cases r with
  | error e => exact (hCX e s' h).elim
  | ok fl =>
    cases fl with
    | next => exact False.elim h
    | brk => exact False.elim h
    | cont => exact False.elim h
    | ret u =>
      obtain ⟨v, H', os, bare, un, hok', r', q⟩ := h
      obtain rfl : v = .bl true := q
      obtain rfl : u = Value.bool true := r'
      have stay : ∀ b o, b ∉ cs.map (·.2) → s₁.heap.get? b = some o → s'.heap.get? b = some o := by
        intro b o nb e
        rcases Z.ok b with z | z | ⟨ob, xs, z⟩
        · exact un.keep b o e z (fun y => absurd (show b ∈ ([] : List Addr) from y) List.not_mem_nil) (by simp)
        · exact absurd z nb
        · obtain ⟨e1, _⟩ := hok b _ z
          obtain ⟨e2, _⟩ := hok' b _ (un.frzs b ob _ z)
          rw [e] at e1
          cases e1
          exact e2
      have grown : ∀ p ∈ cs, ∃ more : Array Value, s'.heap.get? p.2 = some { cls := .none, data := .fields more } := by
        intro p hp
        obtain ⟨more, z⟩ := un.tbls p.2 #[] (Z.tb p.2 (List.mem_map.mpr ⟨p, hp, rfl⟩))
        exact ⟨_, hok' p.2 _ z⟩
      refine ⟨rfl, ⟨fun b o e => ?_, fun b o e => ?_⟩, os, bare⟩
      · by_cases hb : b ∈ cs.map (·.2)
        · obtain ⟨p, hp, rfl⟩ := List.mem_map.mp hb
          obtain ⟨more, hm⟩ := grown p hp
          rw [hT p hp] at e
          cases e
          refine .inr (.inl ⟨((C p hp).tab (hT p hp)).isCodeTable, rfl, #[], more, rfl, ?_⟩)
          rw [Array.empty_append]
          exact hm
        · exact .inl (stay b o hb e)
      · by_cases hb : b ∈ cs.map (·.2)
        · obtain ⟨p, hp, rfl⟩ := List.mem_map.mp hb
          obtain ⟨more, hm⟩ := grown p hp
          exact ⟨_, hm⟩
        · exact ⟨o, stay b o hb e⟩
/-- the abstract heap at the start -/
def stH (T : List Addr) (a : Addr) (o : Option HO) : Hp := fun b => if b ∈ T then some (.tbl #[]) else if b = a then o else none
theorem law_callG (KX : K.In s₁.heap) (hns : s₁.heap.Ns mainGlobals mg) (hb : s₁.heap.Ns builtinsNs mb) (hbb : ∀ x : Str, x ≠ "__name__" → mb x = bootBuiltins x) (hlim : s₁.heap.NoLimit) (hg : s₁.gens = #[])
    (hT : ∀ p ∈ cs, s₁.heap.get? p.2 = some { cls := .none, data := .fields #[] }) (nT : ∀ p ∈ cs, K.lookup p.2 = none) (C : ∀ p ∈ cs, PySem.W.CodeHd s₁.heap p.1 p.2)
    (hbm : ∃ (bm : Addr) (ob : Obj), mg "__builtins__" = some (.ref bm) ∧ bm ≠ builtinsNs ∧ s₁.heap.get? bm = some ob ∧ ob.cls = .type "module" ∧ ob.dict = some builtinsNs ∧ ob.data = .plain)
    (ha : s₁.heap.get? a = some { cls := .type "list", data := .seq vs.toArray }) (hi : IntsAre vs ns) (hl : ns.length ≤ sizeLine) (hr : Room k callerA)
    (F : ∀ base : Heap, K.In base → base.Ns mainGlobals mg → (∀ p ∈ cs, LamX.TabB base mg p.1 p.2) → FnOkG P w K mg base CX k fa fd [x] sp) (hbind : ∀ (s : Shared) (u : Value), BindsTo s fd ⟨[u], []⟩ [(x, u)])
    (hsp : ∀ H : Hp, (∀ p ∈ cs, H p.2 = some (.tbl #[])) → SqL K H a (ns.map V.int) → sp [.ref a] H (fun v _ => v = .bl true) fun _ _ _ => False)
    (hCX : ∀ H e s', CX [] H s₁ (fun _ _ _ => False) e s' → False) :
    codeAny (model P w) callerA (.call (.ref fa) ⟨[.ref a], []⟩) (fun r s' => r = .ok (.ret (.bool true)) ∧ OldK s₁.heap s'.heap ∧ s'.os = s₁.os ∧ AllBare s'.gens) s₁ := by
  have aT : a ∉ cs.map (·.2) := by
    intro z
    obtain ⟨p, hp, e⟩ := List.mem_map.mp z
    have q := hT p hp
    rw [e, ha] at q
    cases q
  have go : ∀ H : Hp, StartH K s₁ a (cs.map (·.2)) H → HOk P w H s₁.heap → SqL K H a (ns.map V.int) → codeAny (model P w) callerA (.call (.ref fa) ⟨[.ref a], []⟩) (fun r s' => r = .ok (.ret (.bool true)) ∧ OldK s₁.heap s'.heap ∧ s'.os = s₁.os ∧ AllBare s'.gens) s₁ := by
    intro H Z hok hS
    obtain ⟨e0, hK, hN, TB⟩ := law_startG KX hns hb hbb hlim hg hT nT C hbm ha Z hok
    refine codeAny_mono ((F _ hK hN TB).run callerA rfl [] s₁ H ⟨[.ref a], []⟩ [.ref a] [.ref a] _ _ hr e0 (hbind s₁ (.ref a)) (.cons rfl .nil) (hsp H (fun p hp => Z.tb _ (List.mem_map.mpr ⟨p, hp, rfl⟩)) hS)) fun r s' h => ?_
    exact law_endG hT C Z hok (fun e s' => hCX H e s') h
  have rv := vals_ints hi
  have nT' : stH (cs.map (·.2)) a none a = none := by
    unfold stH
    rw [if_neg aT, if_pos rfl]
  cases hk : K.lookup a with
  | some o =>
    have e := KX a o hk
    rw [ha] at e
    cases e
    refine go (stH (cs.map (·.2)) a none) ⟨fun b hb => by unfold stH; exact if_pos hb, fun b => ?_, fun b nb => ?_, fun nb => absurd nT' nb⟩ (fun b u z => ?_) (.inr ⟨_, vs.toArray, _, hk, rfl, rfl, rfl, ?_, by simpa using rv⟩)
    · by_cases hb : b ∈ cs.map (·.2)
      · exact .inr (.inl hb)
      · refine .inl ?_
        unfold stH
        rw [if_neg hb]
        split <;> rfl
    · by_cases hb : b ∈ cs.map (·.2)
      · exact .inr hb
      · refine absurd ?_ nb
        unfold stH
        rw [if_neg hb]
        split <;> rfl
    · unfold stH at z
      by_cases hb : b ∈ cs.map (·.2)
      · rw [if_pos hb] at z
        cases z
        obtain ⟨p, hp, rfl⟩ := List.mem_map.mp hb
        exact hT p hp
      · rw [if_neg hb] at z
        split at z <;> cases z
    · rw [List.size_toArray, hi.length]
      exact hl
  | none =>
    have hat : stH (cs.map (·.2)) a (some (.frz { cls := .type "list", data := .seq vs.toArray } (.lst (ns.map V.int)))) a = some (.frz { cls := .type "list", data := .seq vs.toArray } (.lst (ns.map V.int))) := by
      unfold stH
      rw [if_neg aT, if_pos rfl]
    refine go (stH (cs.map (·.2)) a (some (.frz { cls := .type "list", data := .seq vs.toArray } (.lst (ns.map V.int))))) ⟨fun b hb => by unfold stH; exact if_pos hb, fun b => ?_, fun b nb => ?_, fun _ => hk⟩ (fun b u z => ?_) (.inl (.inr ⟨_, hat⟩))
    · by_cases hb : b ∈ cs.map (·.2)
      · exact .inr (.inl hb)
      · by_cases hb2 : b = a
        · subst hb2
          exact .inr (.inr ⟨_, _, hat⟩)
        · refine .inl ?_
          unfold stH
          rw [if_neg hb, if_neg hb2]
    · by_cases hb : b ∈ cs.map (·.2)
      · exact .inr hb
      · by_cases hb2 : b = a
        · exact .inl hb2
        · refine absurd ?_ nb
          unfold stH
          rw [if_neg hb, if_neg hb2]
    · by_cases hb : b ∈ cs.map (·.2)
      · unfold stH at z
        rw [if_pos hb] at z
        cases z
        obtain ⟨p, hp, rfl⟩ := List.mem_map.mp hb
        exact hT p hp
      · by_cases hb2 : b = a
        · subst hb2
          rw [hat] at z
          cases z
          refine ⟨ha, ?_, vs, _, rv, ha⟩
          rw [List.length_map]
          exact hl
        · unfold stH at z
          rw [if_neg hb, if_neg hb2] at z
          cases z
end
/-- the end of a law that may show values -/
theorem walkGG {l : PySem.W.OpenLaw} {k : Nat} {q : Program} {loose : List Str} {XP : (Str → Option Value) → Heap → Prop} {d : DefRec} {x : Str} {n : Nat} {fa : List He.Fa} {fn : List He.DefD} {ts : List He.Tab} {tf : List He.Defn} {ex : PySem.W.Frag → Bool}
    (hn : l.most = some 63) (hdf : d.params.defaults = []) (hr : Room k callerA) (hex : ∀ K, ex K = true → tabsB tf K = true)
    (F : ∀ (w : World) (mg : Str → Option Value) (f : Addr) (h : Heap) (K : PySem.W.Frag), K.In h → He.SaysX fa fn ts tf ex w h K → h.Ns mainGlobals mg → mg d.name = some (.ref f) →
      ∃ fd : FuncData, (∀ (s : Shared) (u : Value), BindsTo s fd ⟨[u], []⟩ [(x, u)]) ∧
        ∀ base : Heap, K.In base → base.Ns mainGlobals mg → (∀ p ∈ tf.map (He.cT K), LamX.TabB base mg p.1 p.2) → FnOkG l.prog w K mg base (L2N.CX l.prog w) k f fd [x] (lift K mg spLaw)) :
    PySem.W.WalkO q loose XP (He.hookX n fa fn ts tf ex).says l.row.toRowW d [] (fun f vs => PySem.call f vs) := by
  refine Att.attach_callB hn hdf fun w s₀ s₁ mg mb fa o pm cd doc a vs ns G Y ho hd hcd hmg hobj hints hlen hbits hg => ?_
  obtain ⟨K, KX, S⟩ := Y
  obtain ⟨fd, hb, hF⟩ := F w mg fa _ K KX S G.T.g hmg
  have at_ : ∀ {Pr : Addr × Addr → Prop}, (∀ t ∈ tf, Pr (He.cT K t)) → ∀ p ∈ tf.map (He.cT K), Pr p := by
    intro Pr h p hp
    obtain ⟨t, ht, rfl⟩ := List.mem_map.mp hp
    exact h t ht
  refine law_callG (sp := lift K mg spLaw) KX G.T.g G.T.b G.T.builtins G.T.nolimit hg (at_ S.empty) (at_ S.out) (at_ fun t ht => PySem.W.codeHd_of_K KX (S.hd t ht)) G.T.bmain hobj hints (Nat.le_trans hlen (by decide)) hr hF hb (fun H hT hS => ?_) (fun H e s' z => ?_)
  · refine law_start hlen hbits (fun p hp => ?_) hS
    obtain ⟨t, ht, e⟩ := tabsB_ok (hex K S.more) hp
    rw [← e]
    exact hT _ (List.mem_map.mpr ⟨t, ht, rfl⟩)
  · obtain ⟨_, _, _, _, _, _, _, _, _, _, _, _, z⟩ := z
    exact z
end G

/-! GRepr: repr of lists and tuples. -/
namespace G
open PySem PySem.Spec L2
open Evl (Ex)
def rRepr (K : PySem.W.Frag) : List V → Hp → VK → Prop := fun xs H Q => ∃ (a : Addr) (d : PyData), xs = [.ref a] ∧ Dp K H (.ref a) d ∧ d.showable = true ∧ d.hasDict = false ∧ d.depth ≤ 64 ∧ d.shown.length ≤ sizeLine ∧ Q (.str d.shown) H
def isCont : D → Bool
  | .lst _ => true
  | .tup _ => true
  | .ref _ => true
  | _ => false
def shwD (d : D) : Str := (toP d).shown
def sRepr : Spec := fun ds cs Q _ => match ds with
  | [x] => isCont x = true ∧ pur 64 (deref cs x) = true ∧ (toP (deref cs x)).showable = true ∧ (shwD (deref cs x)).length ≤ lim ∧ Q (.str (shwD (deref cs x))) cs
  | _ => False
mutual
theorem pur_noD : ∀ (k : Nat) (d : D), pur k d = true → (toP d).hasDict = false
  | k, .non, _ => by simp [toP, PyData.hasDict]
  | k, .bl _, _ => by simp [toP, PyData.hasDict]
  | k, .int _, _ => by simp [toP, PyData.hasDict]
  | k, .str _, _ => by simp [toP, PyData.hasDict]
  | k + 1, .lst xs, h => by
    simp only [toP, PyData.hasDict]
    exact purs_noD k xs (pur_in h)
  | k + 1, .tup xs, h => by
    simp only [toP, PyData.hasDict]
    exact purs_noD k xs (pur_in h)
  | 0, .lst _, h => by simp [pur] at h
  | 0, .tup _, h => by simp [pur] at h
  | k, .dic _ _, h => by cases k <;> simp [pur] at h
  | k, .ref _, h => by cases k <;> simp [pur] at h
  | k, .scr, h => by cases k <;> simp [pur] at h
  | k, .clo _ _ _, h => by cases k <;> simp [pur] at h
theorem purs_noD : ∀ (k : Nat) (xs : List D), purs k xs = true → PyData.hasDictAll (toPs xs) = false
  | _, [], _ => by simp [toPs, PyData.hasDictAll]
  | k, x :: xs, h => by
    have h : (pur k x && purs k xs) = true := h
    rw [Bool.and_eq_true] at h
    simp only [toPs, PyData.hasDictAll, pur_noD k x h.1, purs_noD k xs h.2]
    rfl
end
section
variable {X : Cx} {W : WX} {pos p : Pos} {e : Expr} {ce : E} {K : PySem.W.Frag}
theorem cr_repr (hg : X.A.guards = some []) (hu : X.A.units + 66 < cLine) : CallR X (.builtin "repr") (rRepr X.K) := by
  intro pins s σ H xs us Q I r h
  obtain ⟨a, d, rfl, hd, hs, hn, hp, hl, q⟩ := h
  obtain ⟨u, rfl, ru⟩ := vals1 r
  obtain ⟨as, rd⟩ := Dp.reads I d (.ref a) u hd ru
  cases ru
  exact repr_of_reads' rd hs (fun z => by rw [hn] at z; cases z) hg (by omega) (fun _ _ e => e) (fun h' v tk hk => ⟨.str _, H, I.kept hk, ⟨_, rfl⟩, q⟩) hl
theorem refn_repr : RefN K (rRepr K) sRepr := by
  intro wd F cs H ds vs P PX Q R r hs q
  match ds, hs with
  | [d], hs =>
    obtain ⟨v, e, rv⟩ := r.one
    obtain ⟨hc, h1, h2, h3, h4⟩ := hs
    have ev : ∃ a, v = .ref a := by
      cases d with
      | lst xs =>
        obtain ⟨a, _, z, _⟩ := rv
        exact ⟨a, z⟩
      | tup xs =>
        obtain ⟨a, _, z, _⟩ := rv
        exact ⟨a, z⟩
      | ref n =>
        obtain ⟨a, _, z⟩ := rv
        exact ⟨a, z⟩
      | _ => cases hc
    obtain ⟨a, rfl⟩ := ev
    refine ⟨a, toP (deref cs d), e, dp_deref R h1 rv, h2, pur_noD _ _ h1, (pur_lay 64 _ h1).2, by rw [sizeL]; exact h3, ?_⟩
    exact q wd (.str _) cs _ H (Wd.le.refl _) R rfl h4
  | [], hs => exact hs.elim
  | _ :: _ :: _, hs => exact hs.elim
theorem boot_reprG : bootBuiltins ("repr" : Str) = some (.builtin "repr") := by rfl
theorem j_repr (hA : X.A.guards = some []) (hu : X.A.units + 66 < cLine) (hg : Gl X "repr") (hm : X.mg "repr" = none) (ha : JE X W e ce) (h1 : starEach [e] X.env = (false, eval e X.env) :: starEach [] X.env := by rfl) : JE X W (.Call (.Name "repr" p) [e] [] pos) (.app sRepr (.cons ce .nil)) :=
  j_bltn (cr_repr hA hu) refn_repr hg hm boot_reprG (ja_cons ha ja_nil h1) (he := h1) (hpl := rfl)
theorem Ct.hu66 {X : Cx} {W : WX} {k : Nat} (c : Ct X W k) : X.A.units + 66 < cLine := by have := c.hr.un; omega
end
/-! ### what is shown is short and valid -/
theorem strOk_app {a b : Str} (ha : strOk a = true) (hb : strOk b = true) : strOk (a ++ b) = true := by
  have e : (a ++ b).cps = a.cps ++ b.cps := rfl
  unfold strOk at *
  rw [e, Array.all_append, ha, hb]
  rfl
theorem strOk_of (s : String) : strOk (Str.ofString s) = true := by
  unfold strOk
  rw [Str.ofString_eq_toList]
  simp only [List.all_toArray', List.all_map, List.all_eq_true]
  intro c _
  have := c.valid
  simp only [Function.comp, decide_eq_true_eq]
  have h := c.valid
  unfold UInt32.isValidChar Nat.isValidChar at h
  show c.val.toNat < _
  omega
end G

/-! GLink: a root put under another. -/
namespace G
open PySem (Str)
section
variable {p : List Nat} {c a : Nat}
end
/-! ### the errors -/
def nrE (p : List Nat) (c : Int) : Option (Str × Int) := if 0 ≤ c ∧ c < p.length then (if par p c.toNat = c.toNat then none else some ("NotRoot", c)) else some ("NoNode", c)
def lnkE (p : List Nat) (c a : Int) : Option (Str × Int) := match nrE p c with
  | some e => some e
  | none => match nrE p a with
    | some e => some e
    | none => if c = a then some ("SameRoot", c) else none
end G

/-! GHist: histories: steps as a type; checked, run. -/
namespace G
open PySem (Str)
inductive Stp where
  | nd (i : Int)
  | lk (c a : Int)
  | rp (n : Nat) (b : Bool) (ss : List Stp)
def sqD (b : Bool) (xs : List D) : D := if b = true then .tup xs else .lst xs
mutual
def stD : Stp → D
  | .nd i => .int i
  | .lk c a => .tup [.str "link", .int c, .int a]
  | .rp n b ss => .tup [.str "repeat", .int (n : Nat), sqD b (stDs ss)]
def stDs : List Stp → List D
  | [] => []
  | s :: ss => stD s :: stDs ss
end
mutual
def dpS : Stp → Nat
  | .nd _ => 0
  | .lk _ _ => 0
  | .rp _ _ ss => dpL ss + 1
def dpL : List Stp → Nat
  | [] => 0
  | s :: ss => max (dpS s) (dpL ss)
end
mutual
def vlS : Nat → Stp → Prop
  | _, .nd _ => True
  | k, .lk _ _ => k = 0
  | k, .rp n _ ss => k < 4 ∧ n ≤ 10 ^ 30 ∧ vlL (k + 1) ss
def vlL : Nat → List Stp → Prop
  | _, [] => True
  | k, s :: ss => vlS k s ∧ vlL k ss
end
mutual
theorem dpS_le : ∀ (k : Nat) (s : Stp), vlS k s → k ≤ 4 → dpS s + k ≤ 4
  | _, .nd _, _, hk => by simpa [dpS] using hk
  | _, .lk _ _, _, hk => by simpa [dpS] using hk
  | k, .rp n _ ss, h, hk => by
    have h : k < 4 ∧ n ≤ 10 ^ 30 ∧ vlL (k + 1) ss := by simpa [vlS] using h
    have := dpL_le (k + 1) ss h.2.2 (by omega)
    simp only [dpS]
    omega
theorem dpL_le : ∀ (k : Nat) (ss : List Stp), vlL k ss → k ≤ 4 → dpL ss + k ≤ 4
  | _, [], _, hk => by simpa [dpL] using hk
  | k, s :: ss, h, hk => by
    have h : vlS k s ∧ vlL k ss := by simpa [vlL] using h
    have a := dpS_le k s h.1 hk
    have b := dpL_le k ss h.2 hk
    simp only [dpL]
    omega
end
/-! ### the walk over steps -/
theorem grdL_self {x : D} {cs : Cs} : grdL x cs cs := by cases x <;> first | trivial | rfl
theorem sqD_q {b : Bool} {xs : List D} {cs : Cs} : getQ (sqD b xs) cs = some xs := by cases b <;> rfl
theorem strE_e {a b : Str} {cs : Cs} {Q : KD} {X : KX} (ha : strOk a = true) (hb : strOk b = true) : sEq [.str a, .str b] cs Q X = Q (.bl (a == b)) cs := by
  rw [sEq_e]
  have h1 : pur 64 (deref cs (.str a)) = true := ha
  have h2 : pur 64 (deref cs (.str b)) = true := hb
  rw [h1, h2]
  simp only [true_and]
  rfl
theorem ok_lkS : strOk "link" = true := by decide +kernel
theorem ok_rpS : strOk "repeat" = true := by decide +kernel
theorem ix3_0 {a b c : D} : ix [a, b, c] 0 = some a := rfl
theorem ix3_1 {a b c : D} : ix [a, b, c] 1 = some b := rfl
theorem ix3_2 {a b c : D} : ix [a, b, c] 2 = some c := rfl
theorem isi_sq {b : Bool} {xs : List D} {cs : Cs} {Q : KD} {X : KX} : sIsi .int [sqD b xs] cs Q X = Q (.bl false) cs := by cases b <;> rfl
theorem sIAdd_e {i j : Int} {cs : Cs} {Q : KD} {X : KX} : sIAdd [.int i, .int j] cs Q X = Q (.int (i + j)) cs := by simp [sIAdd, sInt, CTrue]
theorem sLen_tup {xs : List D} {cs : Cs} {Q : KD} {X : KX} : sLen [.tup xs] cs Q X = Q (.int (xs.length : Nat)) cs := rfl
end G

/-! GHist2: histories checked and run, over the core. -/
namespace G
open PySem (Str)
theorem iSeq_q {x : D} {xs : List D} {cs : Cs} {R : List D → (Cs → Prop) → Prop} (h : getQ x cs = some xs) (k : R xs (grdL x cs)) : iSeq [x] cs R := by
  show (match getQ x cs with
    | some xs => R xs (grdL x cs)
    | none => False)
  rw [h]
  exact k
end G

/-! GHist3: histories run. -/
namespace G
open PySem (Str)
/-- what find must promise -/
structure FdOk (e : Bool) (pf : Spec) : Prop where
  ok : ∀ {p : List Nat} {i : Nat} {cs : Cs} {Q : KD} {X : KX}, FoOk p → i < p.length → p.length ≤ 1000 → Q (.tup [fD (fnd p i), .int (cst p i : Nat)]) cs → pf [fD p, .int (i : Nat)] cs Q X
  er : e = true → ∀ {p : List Nat} {v : Int} {cs : Cs} {Q : KD} {X : KX}, v < 0 ∨ (p.length : Int) ≤ v → X (er "NoNode" "node" (.int v)) cs → pf [fD p, .int v] cs Q X
/-- what link must promise -/
structure LkOk (e : Bool) (pl : Spec) : Prop where
  ok : ∀ {p : List Nat} {c a : Int} {cs : Cs} {Q : KD} {X : KX}, FoOk p → p.length ≤ 1000 → lnkE p c a = none → Q (fD (cmp p [c.toNat] a.toNat)) cs → pl [fD p, .int c, .int a] cs Q X
  er : e = true → ∀ {p : List Nat} {c a : Int} {t : Str} {v : Int} {cs : Cs} {Q : KD} {X : KX}, p.length ≤ 1000 → lnkE p c a = some (t, v) → X (er t "node" (.int v)) cs → pl [fD p, .int c, .int a] cs Q X
end G

/-! GHist4: histories drawn. -/
namespace G
open PySem (Str)
def okS (m : Int) : Nat → Stp → Prop
  | _, .nd i => 0 ≤ i ∧ i < m
  | d + 1, .rp n _ ss => n ≤ 10 ^ 30 ∧ ss.length ≤ 3 ∧ ∀ s ∈ ss, okS m d s
  | _, _ => False
def wrM : Nat → Nat
  | 0 => 1
  | d + 1 => 3 * wrM d + 1
theorem steps_of {m : Int} {d : Nat} : ∀ ys : List D, (∀ y ∈ ys, ∃ s, okS m d s ∧ y = stD s) → ∃ ss, ys = stDs ss ∧ ss.length = ys.length ∧ ∀ s ∈ ss, okS m d s
  | [], _ => ⟨[], by simp [stDs], rfl, by simp⟩
  | y :: ys, h => by
    obtain ⟨s, hs, e⟩ := h y List.mem_cons_self
    obtain ⟨ss, e2, el, h2⟩ := steps_of ys fun y hy => h y (List.mem_cons_of_mem _ hy)
    refine ⟨s :: ss, by rw [stDs, e, e2], by simp [el], fun t ht => ?_⟩
    rcases List.mem_cons.mp ht with z | z
    · rw [z]
      exact hs
    · exact h2 t z
def spLS : Nat → Spec
  | 0 => fun _ _ _ _ => False
  | i + 1 => fun ds cs Q _ => ∃ n m d, ds = [.ref n, .int m, .int (d : Nat)] ∧ cs n = some .drw ∧ 0 < m ∧ m ≤ 2 ^ 100 ∧ d ≤ i ∧ ∀ s, okS m d s → Q (stD s) cs
theorem spLS_e {i n d : Nat} {m : Int} {cs : Cs} {Q : KD} {X : KX} (hc : cs n = some .drw) (h0 : 0 < m) (h1 : m ≤ 2 ^ 100) (hd : d < i) (hQ : ∀ s, okS m d s → Q (stD s) cs) : spLS i [.ref n, .int m, .int (d : Nat)] cs Q X := by
  cases i with
  | zero => omega
  | succ i => exact ⟨n, m, d, rfl, hc, h0, h1, by omega, hQ⟩
theorem okS_nd {m : Int} {d : Nat} {i : Int} (h0 : 0 ≤ i) (h1 : i < m) : okS m d (.nd i) := by
  cases d <;> exact ⟨h0, h1⟩
theorem ok_lstep (i : Nat) : okFn 6 (c_l_step spOf (spLS i) spTake) (spLS (i + 1)) := by
  rintro ds cs Q X ⟨n, m, d, rfl, hc, h0, h1, hd, hQ⟩
  show wpS (.seq (c_l_step_2 spOf (spLS i) spTake) (.seq (c_l_step_3 spOf (spLS i) spTake) (.seq (c_l_step_4 spOf (spLS i) spTake) (c_l_step_5 spOf (spLS i) spTake)))) [some (.ref n), some (.int m), some (.int (d : Nat)), none, none, none] cs _
  simp only [wpS]
  rw [c_l_step_2]
  have leaf : wpS (c_l_step_1 spOf (spLS i) spTake) [some (.ref n), some (.int m), some (.int (d : Nat)), none, none, none] cs { nx := fun σ' cs' => wpS (c_l_step_3 spOf (spLS i) spTake) σ' cs' { nx := fun σ' cs' => wpS (c_l_step_4 spOf (spLS i) spTake) σ' cs' { nx := fun σ' cs' => wpS (c_l_step_5 spOf (spLS i) spTake) σ' cs' { nx := fun x cs' => Q D.non cs', rt := Q, ex := fun x x_1 cs' => X x cs' }, rt := Q, ex := fun x x_1 cs' => X x cs' }, rt := Q, ex := fun x x_1 cs' => X x cs' }, rt := Q, ex := fun x x_1 cs' => X x cs' } := by
    rw [c_l_step_1]
    simp only [wpS, wpE, wpEs, getV, spTake_e]
    exact ⟨hc, h0, by omega, fun r r0 r1 => by
      have := hQ (.nd r) (okS_nd r0 r1)
      rw [stD] at this
      exact this⟩
  simp only [wpS, wpE, wpEs, getV, sEq_i]
  by_cases d0 : d = 0
  · subst d0
    exact leaf
  · have e0 : (((d : Nat) : Int) == 0) = false := by
      rw [beq_eq_false_iff_ne]
      omega
    simp only [e0, Bool.false_eq_true, if_false, spTake_e]
    refine ⟨hc, by decide, by decide, fun r r0 r1 => ?_⟩
    simp only [sGt_i]
    by_cases er : 0 < r
    · rw [decide_eq_true er]
      exact leaf
    rw [decide_eq_false er]
    simp only [Bool.false_eq_true, if_false]
    rw [c_l_step_3]
    simp only [wpS, wpE, wpEs, getV, spTake_e]
    refine ⟨hc, by decide, by decide, fun u u0 u1 => ?_⟩
    simp only [sPow_i]
    refine ⟨powOk_c (by omega), powOk_c (by omega), ?_⟩
    rw [spTake_e]
    refine ⟨hc, by decide, by decide, fun v v0 v1 => ?_⟩
    simp only [sList_e]
    refine ⟨show 7 ≤ 16777216 by decide, ?_⟩
    rw [spOf_e]
    refine ⟨hc, (fun s e => by cases e), _, rfl, by simp, (show 7 ≤ 16777216 by decide), fun w hw => ?_⟩
    have hk : ∃ k : Nat, w = .int (k : Nat) ∧ k ≤ 10 ^ 30 := by
      have e30 : (10 : Int) ^ (30 : Int).toNat = ((10 ^ 30 : Nat) : Int) := by decide
      rw [e30] at hw v1
      have eN : (10 : Nat) ^ 30 = 1000000000000000000000000000000 := by decide
      rw [eN] at hw v1 ⊢
      simp only [List.mem_cons, List.not_mem_nil, or_false] at hw
      rcases hw with z | z | z | z | z | z | z
      · exact ⟨0, z, by omega⟩
      · exact ⟨1, z, by omega⟩
      · exact ⟨2, z, by omega⟩
      · exact ⟨3, z, by omega⟩
      · exact ⟨u.toNat, by rw [z, Int.toNat_of_nonneg u0], by omega⟩
      · exact ⟨_, z, by omega⟩
      · exact ⟨v.toNat, by rw [z, Int.toNat_of_nonneg v0], by omega⟩
    obtain ⟨k, rfl, hk⟩ := hk
    simp only [bindP, List.set]
    rw [c_l_step_4]
    simp only [wpS, wpE, wpEs, getV, spTake_e]
    refine ⟨hc, by decide, by decide, fun g g0 g1 => ?_⟩
    refine ⟨by omega, by omega, ?_⟩
    obtain ⟨d', rfl⟩ : ∃ d', d = d' + 1 := ⟨d - 1, by omega⟩
    have lg : (rgD 0 g).length ≤ 3 := by rw [rgD_length]; omega
    refine compL_all (fun y => ∃ s, okS m d' s ∧ y = stD s) trivial _ _ (fun x hx => ⟨_, rfl, fun K hK => hK, fun K hK => ?_⟩) (show _ ≤ 16777216 by simp; omega) fun ys hl hy => ?_
    · simp only [wipe, List.set, getV, sSub_i]
      have ed : ((d' + 1 : Nat) : Int) - 1 = (d' : Nat) := by omega
      rw [ed]
      exact spLS_e hc h0 h1 (by omega) fun s hs => hK _ ⟨s, hs, rfl⟩
    · obtain ⟨ss, rfl, el, hs⟩ := steps_of ys hy
      rw [if_neg Bool.false_ne_true, List.nil_append]
      rw [c_l_step_5]
      simp only [wpS, wpE, wpEs, getV, sTupOf_e, getQ, G.getL, sList_e]
      refine ⟨show 2 ≤ 16777216 by decide, ?_⟩
      rw [spOf_e]
      refine ⟨hc, (fun s e => by cases e), _, rfl, by simp, (show 2 ≤ 16777216 by decide), fun w hw => ?_⟩
      have fin : ∀ b, w = sqD b (stDs ss) → sTup [.str "repeat", .int (k : Nat), w] cs Q (fun x cs' => X x cs') := by
        rintro b rfl
        rw [sTup_e]
        refine ⟨show 3 ≤ 16777216 by decide, ?_⟩
        have := hQ (.rp k b ss) ⟨hk, by omega, hs⟩
        rw [stD] at this
        exact this
      simp only [List.mem_cons, List.not_mem_nil, or_false] at hw
      rcases hw with z | z
      · exact fin true z
      · exact fin false z
/-- drawn rounds -/
def spLR : Spec := fun ds cs Q _ => ∃ n m b d, ds = [.ref n, .int m, .int (b : Nat), .int (d : Nat)] ∧ cs n = some .drw ∧ 0 < m ∧ m ≤ 2 ^ 100 ∧ b ≤ 1000 ∧ d ≤ 4 ∧ ∀ ss, ss.length ≤ b → (∀ s ∈ ss, okS m d s) → Q (.lst (stDs ss)) cs
theorem spLR_e {n d b : Nat} {m : Int} {cs : Cs} {Q : KD} {X : KX} (hc : cs n = some .drw) (h0 : 0 < m) (h1 : m ≤ 2 ^ 100) (hb : b ≤ 1000) (hd : d ≤ 4) (hQ : ∀ ss, ss.length ≤ b → (∀ s ∈ ss, okS m d s) → Q (.lst (stDs ss)) cs) : spLR [.ref n, .int m, .int (b : Nat), .int (d : Nat)] cs Q X := ⟨n, m, b, d, rfl, hc, h0, h1, hb, hd, hQ⟩
theorem ok_lrounds : okFn 5 (c_l_rounds (spLS 5) spTake) spLR := by
  rintro ds cs Q X ⟨n, m, b, d, rfl, hc, h0, h1, hb, hd, hQ⟩
  show wpS (c_l_rounds_1 (spLS 5) spTake) [some (.ref n), some (.int m), some (.int (b : Nat)), some (.int (d : Nat)), none] cs _
  rw [c_l_rounds_1]
  simp only [wpS, wpE, wpEs, getV, sAdd_i, spTake_e]
  refine ⟨hc, by omega, by omega, fun g g0 g1 => ⟨by omega, by omega, ?_⟩⟩
  have lg : (rgD 0 g).length ≤ b := by rw [rgD_length]; omega
  refine compL_all (fun y => ∃ s, okS m d s ∧ y = stD s) trivial _ _ (fun x hx => ⟨_, rfl, fun K hK => hK, fun K hK => ?_⟩) (show _ ≤ 16777216 by simp; omega) fun ys hl hy => ?_
  · simp only [wipe, List.set, getV]
    exact spLS_e hc h0 h1 (by omega) fun s hs => hK _ ⟨s, hs, rfl⟩
  · obtain ⟨ss, rfl, el, hs⟩ := steps_of ys hy
    rw [if_neg Bool.false_ne_true, List.nil_append]
    exact hQ ss (by omega) hs
end G

/-! GReprH: repr of histories. -/
namespace G
open PySem (Str PyData)
open PySem
mutual
def rOk : D → Prop
  | .str x => strOk (reprText x) = true
  | .lst xs => rOks xs
  | .tup xs => rOks xs
  | _ => True
def rOks : List D → Prop
  | [] => True
  | x :: xs => rOk x ∧ rOks xs
end
theorem join_ok {a : Str} (ha : strOk a = true) : ∀ ts : List Str, (∀ t ∈ ts, strOk t = true) → strOk (Str.join a ts) = true
  | [], _ => by first | rfl | exact strOk_of ""
  | [x], h => h x List.mem_cons_self
  | x :: y :: r, h => by
    show strOk (x ++ a ++ Str.join a (y :: r)) = true
    exact strOk_app (strOk_app (h x List.mem_cons_self) ha) (join_ok ha (y :: r) fun t ht => h t (List.mem_cons_of_mem _ ht))
theorem listT_ok {ts : List Str} (h : ∀ t ∈ ts, strOk t = true) : strOk (listText ts) = true := by
  rw [listText_eq_join]
  exact strOk_app (strOk_app (strOk_of _) (join_ok (strOk_of _) ts h)) (strOk_of _)
theorem tupleT_ok {ts : List Str} (h : ∀ t ∈ ts, strOk t = true) : strOk (tupleText ts) = true := by
  unfold tupleText
  exact strOk_app (strOk_app (strOk_of _) (join_ok (strOk_of _) ts h)) (strOk_of _)
mutual
theorem shw_ok : ∀ d : D, rOk d → strOk (toP d).shown = true
  | .non, _ => by simp only [toP, PyData.shown]; exact strOk_of _
  | .bl b, _ => by cases b <;> simp only [toP, PyData.shown, if_true, Bool.false_eq_true, if_false] <;> exact strOk_of _
  | .int i, _ => by simp only [toP, PyData.shown]; exact strOk_of _
  | .str x, h => by simp only [toP, PyData.shown]; exact h
  | .lst xs, h => by
    simp only [toP, PyData.shown]
    exact listT_ok (shws_ok xs h)
  | .tup xs, h => by
    simp only [toP, PyData.shown]
    exact tupleT_ok (shws_ok xs h)
  | .dic _ _, _ => by simp only [toP, PyData.shown]; exact strOk_of _
  | .ref _, _ => by simp only [toP, PyData.shown]; exact strOk_of _
  | .scr, _ => by simp only [toP, PyData.shown]; exact strOk_of _
  | .clo _ _ _, _ => by simp only [toP, PyData.shown]; exact strOk_of _
theorem shws_ok : ∀ xs : List D, rOks xs → ∀ t ∈ PyData.shownAll (toPs xs), strOk t = true
  | [], _, t, ht => by simp [toPs, PyData.shownAll] at ht
  | x :: xs, h, t, ht => by
    simp only [toPs, PyData.shownAll, List.mem_cons] at ht
    rcases ht with rfl | ht
    · exact shw_ok x h.1
    · exact shws_ok xs h.2 t ht
end
theorem int_len {i : Int} (h : i.natAbs < 10 ^ 40) : (PyData.shown (.int i)).length ≤ 41 := by
  have e := int_text_length_le10 (k := 40) (by decide) h
  show (Str.ofString (toString i)).length ≤ 41
  rw [ofString_length]
  exact e
theorem int_shw {i : Int} (h : i.natAbs < 10 ^ 40) : (PyData.int i).showable = true := by
  simp only [PyData.showable, decide_eq_true_eq]
  by_cases e : i.natAbs = 0
  · rw [e]
    decide
  · refine (Nat.log2_lt e).mpr (Nat.lt_of_lt_of_le h ?_)
    exact Nat.le_trans (show (10 : Nat) ^ 40 ≤ 2 ^ 133 by decide) (Nat.pow_le_pow_right (by decide) (by decide))
end G

/-! GSortN: sorted(..) of whole numbers as a cell. -/
namespace G
open PySem PySem.Spec L2
section
variable {X : Cx} {W : WX} {pos p : Pos} {a : Expr} {ca : E}
end
end G

namespace G
def c_found_nodesQ_1 (p_check_history : G.Spec) (p_note_found : G.Spec) : S := (.exp (.app p_check_history (.cons (.v 0) .nil)))
def c_found_nodesQ_2 (p_check_history : G.Spec) (p_note_found : G.Spec) : S := (.asg (.nm 1) (.app sListM .nil))
def c_found_nodesQ_3 (p_check_history : G.Spec) (p_note_found : G.Spec) : S := (.exp (.app p_note_found (.cons (.v 0) (.cons (.v 1) .nil))))
def c_found_nodesQ_4 (p_check_history : G.Spec) (p_note_found : G.Spec) : S := (.ret (.app sSorted (.cons (.v 1) .nil)))
def c_found_nodesQ (p_check_history : G.Spec) (p_note_found : G.Spec) : S := (.seq (c_found_nodesQ_1 p_check_history p_note_found) (.seq (c_found_nodesQ_2 p_check_history p_note_found) (.seq (c_found_nodesQ_3 p_check_history p_note_found) (c_found_nodesQ_4 p_check_history p_note_found))))
end G

/-! GTup: + of tuples, empty ones too. -/
namespace G
open PySem PySem.Spec L2
def sAddT : Spec := fun ds cs Q _ => ∃ xs ys, ds = [.tup xs, .tup ys] ∧ xs.length + ys.length ≤ lim ∧ Q (.tup (xs ++ ys)) cs
section
variable {X : Cx} {W : WX} {pos : Pos} {a b : Expr} {ca cb : E}
theorem ref_addT : Ref2 X.K (rCatA X.K) sAddT := by
  intro wd F cs H x y v w P PX Q R rx ry hs q
  obtain ⟨xs, ys, ed, hl, hP⟩ := hs
  simp only [List.cons.injEq, and_true] at ed
  obtain ⟨e1, e2⟩ := ed
  subst e1 e2
  obtain ⟨a1, vs, ev, s1, r1⟩ := rx
  obtain ⟨a2, ws, ew, s2, r2⟩ := ry
  subst ev ew
  refine ⟨a1, a2, vs, ws, rfl, rfl, SqT.of (R.b _ _ s1), SqT.of (R.b _ _ s2), by rw [r1.length, r2.length, sizeL]; exact hl, fun e => ?_, fun h1 e => ?_, fun h1 h2 p hp => ?_⟩
  · have : xs = [] := by
      have := r1.length
      rw [e] at this
      exact List.length_eq_zero_iff.mp this.symm
    subst this
    exact q wd (.tup ys) cs _ H (Wd.le.refl _) R ⟨a2, ws, rfl, s2, r2⟩ hP
  · have : ys = [] := by
      have := r2.length
      rw [e] at this
      exact List.length_eq_zero_iff.mp this.symm
    subst this
    rw [List.append_nil] at hP
    exact q wd (.tup xs) cs _ H (Wd.le.refl _) R ⟨a1, vs, rfl, s1, r1⟩ hP
  · obtain ⟨wd', le, R', rp⟩ := R.tup hp (r1.append r2)
    exact q wd' _ cs _ _ le R' rp hP
theorem j_addT (ha : JE X W a ca) (hb : JE X W b cb) : JE X W (.BinOp a .Add b pos) (.app sAddT (.cons ca (.cons cb .nil))) := j_op op_catA ref_addT ha hb
end
end G

/-! GCellM: lists put together, cut: as cells. -/
namespace G
open PySem PySem.Spec PyProof.Rows L2
def sAddM : Spec := fun ds cs Q _ => ∃ x y xs ys, ds = [x, y] ∧ getL x cs = some xs ∧ getL y cs = some ys ∧ xs.length + ys.length ≤ 16777216 ∧ ∀ n, cs n = none → Q (.ref n) (put cs n (.lst (xs ++ ys)))
section
variable {X : Cx} {W : WX} {a b : Expr} {p pos p2 : Pos} {ca cb : E}
theorem ref_addM : Ref2 X.K rCat sAddM := by
  intro wd F cs H x y v w P PX Q R rx ry hs q
  obtain ⟨x', y', xs, ys, e, ex, ey, hl, h⟩ := hs
  cases e
  obtain ⟨a1, vs, e1, h1, r1⟩ := R.getL rx ex
  obtain ⟨a2, ws, e2, h2, r2⟩ := R.getL ry ey
  refine ⟨a1, a2, vs, ws, e1, e2, h1, h2, by rw [r1.length, r2.length, sizeL]; exact hl, fun p hp => ?_⟩
  obtain ⟨n, wd3, hn, l3, R3, r3⟩ := R.cellL hp (r1.append r2)
  exact q wd3 _ _ _ _ l3 R3 r3 (h n hn)
theorem j_addM (ha : JE X W a ca) (hb : JE X W b cb) : JE X W (.BinOp a .Add b pos) (.app sAddM (.cons ca (.cons cb .nil))) := j_op op_cat ref_addM ha hb
end
end G

/-! GDict: dicts as cells. -/
namespace G
open PySem PySem.Spec L2
def valA (l : DL) (k : Key) : Option D := (l.find? fun p => decide (p.1 = k)).map (·.2)
/-- the same keys, the values told -/
structure DicR (K : PySem.W.Frag) (wd : Wd) (l : DL) (kvs : List (Key × V)) : Prop where
  ks : l.map (·.1) = kvs.map (·.1)
  vs : RpL K wd (l.map (·.2)) (kvs.map (·.2))
section
variable {K : PySem.W.Frag} {wd wd' : Wd} {F H : Hp} {cs : Cs}
theorem DicR.o {l : DL} {kvs : List (Key × V)} (h : DicR K wd l kvs) : RpO K wd (dicO l) (.dK kvs) := by
  refine ⟨kvs, rfl, ?_, h.vs⟩
  have := congrArg (List.map kD) h.ks
  rw [List.map_map, List.map_map] at this
  exact this
theorem DicR.cons_inv {p : Key × D} {l : DL} {q : Key × V} {kvs : List (Key × V)} (h : DicR K wd (p :: l) (q :: kvs)) : p.1 = q.1 ∧ Rp K wd p.2 q.2 ∧ DicR K wd l kvs := by
  have a := h.ks
  simp only [List.map_cons, List.cons.injEq] at a
  obtain ⟨v, r, e, b, c⟩ := h.vs
  simp only [List.map_cons, List.cons.injEq] at e
  exact ⟨a.1, by rw [e.1]; exact b, a.2, by rw [e.2]; exact c⟩
theorem DicR.nil : DicR K wd [] [] := ⟨rfl, rfl⟩
theorem DicR.cons {p : Key × D} {l : DL} {q : Key × V} {kvs : List (Key × V)} (h1 : p.1 = q.1) (h2 : Rp K wd p.2 q.2) (h : DicR K wd l kvs) : DicR K wd (p :: l) (q :: kvs) :=
  ⟨by simp only [List.map_cons, h1, h.ks], q.2, kvs.map (·.2), rfl, h2, h.vs⟩
theorem DicR.ind {M : DL → List (Key × V) → Prop} (h0 : M [] []) (hs : ∀ p l q kvs, p.1 = q.1 → Rp K wd p.2 q.2 → DicR K wd l kvs → M l kvs → M (p :: l) (q :: kvs)) : ∀ {l : DL} {kvs : List (Key × V)}, DicR K wd l kvs → M l kvs
  | [], [], _ => h0
  | [], _ :: _, h => by have := h.ks; simp at this
  | _ :: _, [], h => by have := h.ks; simp at this
  | p :: l, q :: kvs, h => by
    obtain ⟨a, b, c⟩ := h.cons_inv
    exact hs p l q kvs a b c (DicR.ind h0 hs c)
theorem DicR.mono {l : DL} {kvs : List (Key × V)} (h : DicR K wd l kvs) (le : wd.le wd') : DicR K wd' l kvs := ⟨h.ks, RpL.mono le _ _ h.vs⟩
theorem DicR.len {l : DL} {kvs : List (Key × V)} (h : DicR K wd l kvs) : l.length = kvs.length := by
  have := congrArg List.length h.ks
  simpa using this
theorem DicR.some {l : DL} {kvs : List (Key × V)} {k : Key} {d : D} (h : DicR K wd l kvs) : valA l k = some d → ∃ v, valV kvs k = some v ∧ Rp K wd d v := by
  refine DicR.ind (M := fun l kvs => valA l k = Option.some d → ∃ v, valV kvs k = Option.some v ∧ Rp K wd d v) ?_ ?_ h
  · intro e
    simp [valA] at e
  · intro p l q kvs h1 h2 _ ih e
    unfold valA at e
    by_cases z : p.1 = k
    · rw [List.find?_cons_of_pos (by simpa using z)] at e
      cases e
      exact ⟨q.2, valV_pos (h1.symm.trans z), h2⟩
    · rw [List.find?_cons_of_neg (by simpa using z)] at e
      obtain ⟨v, a, b⟩ := ih e
      exact ⟨v, by rw [valV_neg (fun y => z (h1.trans y))]; exact a, b⟩
theorem DicR.none {l : DL} {kvs : List (Key × V)} {k : Key} (h : DicR K wd l kvs) : valA l k = none → valV kvs k = none := by
  refine DicR.ind (M := fun l kvs => valA l k = Option.none → valV kvs k = Option.none) ?_ ?_ h
  · intro _
    rfl
  · intro p l q kvs h1 h2 _ ih e
    unfold valA at e
    by_cases z : p.1 = k
    · rw [List.find?_cons_of_pos (by simpa using z)] at e
      cases e
    · rw [List.find?_cons_of_neg (by simpa using z)] at e
      rw [valV_neg (fun y => z (h1.trans y))]
      exact ih e
theorem DicR.any {l : DL} {kvs : List (Key × V)} {k : Key} (h : DicR K wd l kvs) : (l.any fun p => decide (p.1 = k)) = kvs.any fun p => decide (p.1 = k) := by
  refine DicR.ind (M := fun l kvs => (l.any fun p => decide (p.1 = k)) = kvs.any fun p => decide (p.1 = k)) rfl ?_ h
  intro p l q kvs h1 h2 _ ih
  rw [List.any_cons, List.any_cons, ih, h1]
theorem DicR.put {l : DL} {kvs : List (Key × V)} {k : Key} {d : D} {v : V} (h : DicR K wd l kvs) (r : Rp K wd d v) : DicR K wd (putA l k d) (putK kvs k v) := by
  unfold putA putK
  rw [h.any (k := k)]
  by_cases z : (kvs.any fun p => decide (p.1 = k)) = true
  · rw [if_pos z, if_pos z]
    refine DicR.ind (M := fun l kvs => DicR K wd (l.map fun p => if p.1 = k then (p.1, d) else p) (kvs.map fun p => if p.1 = k then (p.1, v) else p)) DicR.nil ?_ h
    intro p l q kvs h1 h2 _ ih
    rw [List.map_cons, List.map_cons]
    by_cases y : p.1 = k
    · rw [if_pos y, if_pos (h1.symm.trans y)]
      exact DicR.cons h1 r ih
    · rw [if_neg y, if_neg (fun e => y (h1.trans e))]
      exact DicR.cons h1 h2 ih
  · rw [if_neg z, if_neg z]
    refine ⟨by simp only [List.map_append, h.ks]; rfl, ?_⟩
    rw [List.map_append, List.map_append]
    exact h.vs.append (es := [d]) (ws := [v]) ⟨v, [], rfl, r, rfl⟩
theorem Rp.key {k : Key} {v : V} (h : Rp K wd (kD k) v) : v = kV k := by
  cases k with
  | inl i => exact h
  | inr x => exact h
end
/-! ### rules -/
section
variable {X : Cx} {W : WX} {pos apos cpos p : Pos} {o i e f value : Expr} {co ci ce cf cv : E}
end
end G

/-! GMisc: dict.clear, max of a list, int of a bool, str of an int, join, list.pop, list.remove. -/
namespace G
open PySem PySem.Spec L2
open Evl (Ex)
def sPop : Spec := fun ds cs Q _ => ∃ n xs y, ds = [.ref n] ∧ cs n = some (.lst xs) ∧ xs[xs.length - 1]? = some y ∧ Q y (put cs n (.lst xs.dropLast))
theorem RpL.dropLast {K : PySem.W.Frag} {wd : Wd} {ds : List D} {vs : List V} (h : RpL K wd ds vs) : RpL K wd ds.dropLast vs.dropLast := by
  rw [List.dropLast_eq_take, List.dropLast_eq_take, h.length]
  exact h.take _
section
variable {X : Cx} {W : WX} {pos apos p : Pos} {o a e : Expr} {co ca ce : E}
theorem j_pop (ho : JE X W o co) (hbase : attributeBase o "pop" X.env (eval o X.env) = eval o X.env := by rfl) (hline : (apos.endLine == pos.line) = true := by rfl) : JE X W (.Call (.Attribute o "pop" apos) [] [] pos) (.app sPop (.cons co .nil)) := by
  obtain ⟨to, p1, r1⟩ := ho
  refine ⟨_, pe_bm0 PySem.F.plainAttrs_list PySem.F.slot_list_pop PySem.F.type_list_pop mt_pop p1 hbase hline, fun wd F τ cs σ H P PX Q R rs h q x => ?_⟩
  refine r1 wd F τ cs σ H _ PX _ R rs h (fun wd1 d c1 v H1 l1 R1 rv h1 => ?_) x
  obtain ⟨n, xs, y, e, ec, ey, h1⟩ := h1
  cases e
  obtain ⟨a, vs, ea, hH, rw', put'⟩ := R1.cellAt rv ec
  subst ea
  obtain ⟨v, e2, rv2⟩ := rw'.get ey
  exact ⟨Or.inl ⟨rfl, vs, SqL.of hH⟩, a, vs, v, rfl, rfl, hH, by rw [rw'.length]; exact e2, q wd1 y _ _ _ l1 (put' _ _ rw'.dropLast) rv2 h1⟩
end
end G

/-! GRevT: t[::-1] of tuples. -/
namespace HT
open PySem PySem.Spec PyProof.Rows
section
variable {prog : Program} {w : World} {A : Around} {E : Value → Shared → Prop} {s : Shared}
theorem adjust_rev (n : Nat) : Builtin.Slice.sliceAdjust none none (-1) (n : Int) = ((n : Int) - 1, -1) := by
  unfold Builtin.Slice.sliceAdjust
  have h1 : ((-1 : Int) < 0) := by omega
  simp only [h1, if_true]
theorem places_rev (n : Nat) : Builtin.Slice.slicePlaces ((n : Int) - 1) (-1) (-1) = n := by
  unfold Builtin.Slice.slicePlaces
  have h1 : ¬ ((-1 : Int) > 0) := by omega
  simp only [h1, if_false]
  by_cases h : (n : Int) - 1 > -1
  · rw [if_pos h, show (- -1 : Int) = 1 by decide, Int.ediv_one]
    omega
  · rw [if_neg h]
    omega
theorem sliceApplied_rev {sl : Addr} {vl vu vs : Value} {n : Nat} {Q : Int × Int × Nat → Shared → Prop} (hs : s.heap.IsSliceOf sl vl vu vs) (pl : IsPart vl none) (pu : IsPart vu none) (ps : IsPart vs (some (-1)))
    (h : Q ((n : Int) - 1, -1, n) s) : wpAny (model prog w) A (Builtin.Slice.sliceApplied (.ref sl) (pure (n : Int))) Q E s := by
  obtain ⟨os, hos, hcs, hds⟩ := id hs
  unfold Builtin.Slice.sliceApplied Builtin.Slice.sliceFields
  refine wpAny_bind (wpAny_bind (wpAny_field hos hds (x := vl) rfl (wpAny_bind (wpAny_field hos hds (x := vu) rfl (wpAny_bind (wpAny_field hos hds (x := vs) rfl (wpAny_pure ?_)))))))
  refine wpAny_bind (slicePart_ ps ?_)
  show wpAny _ _ (if ((-1 : Int) == 0) = true then _ else _) _ _ s
  rw [if_neg (by decide)]
  refine wpAny_bind (slicePart_ pl (wpAny_bind (slicePart_ pu (wpAny_bind (wpAny_pure ?_)))))
  show wpAny _ _ (match Builtin.Slice.sliceAdjust none none (-1) (n : Int) with | (lo, hi) => pure (lo, (-1 : Int), Builtin.Slice.slicePlaces lo hi (-1))) _ _ s
  rw [adjust_rev n]
  show wpAny _ _ (pure ((n : Int) - 1, (-1 : Int), Builtin.Slice.slicePlaces ((n : Int) - 1) (-1) (-1))) _ _ s
  rw [places_rev]
  exact wpAny_pure h
theorem fm_congr {α β : Type} {f g : α → Option β} : ∀ {l : List α}, (∀ x ∈ l, f x = g x) → l.filterMap f = l.filterMap g
  | [], _ => rfl
  | x :: l, h => by
    rw [List.filterMap_cons, List.filterMap_cons, h x List.mem_cons_self, fm_congr fun y hy => h y (List.mem_cons_of_mem _ hy)]
theorem pick_rev (xs : Array Value) : ((List.range xs.size).filterMap fun (m : Nat) => xs[(((xs.size : Int) - 1) + (m : Int) * (-1)).toNat]?).toArray = xs.toList.reverse.toArray := by
  congr 1
  apply List.ext_getElem?
  intro i
  have key : ((List.range xs.size).filterMap fun (m : Nat) => xs[(((xs.size : Int) - 1) + (m : Int) * (-1)).toNat]?) = (List.range xs.size).map fun m => xs.toList.getD (xs.size - 1 - m) .none := by
    rw [← List.filterMap_eq_map]
    refine fm_congr fun m hm => ?_
    have hm := List.mem_range.mp hm
    have e : (((xs.size : Int) - 1) + (m : Int) * (-1)).toNat = xs.size - 1 - m := by omega
    rw [e]
    show xs[xs.size - 1 - m]? = some (xs.toList.getD (xs.size - 1 - m) .none)
    rw [List.getD_eq_getElem?_getD, ← Array.getElem?_toList, List.getElem?_eq_getElem (by rw [Array.length_toList]; omega)]
    rfl
  rw [key, List.getElem?_map]
  by_cases h : i < xs.size
  · rw [List.getElem?_range h, List.getElem?_reverse (by rw [Array.length_toList]; exact h), Array.length_toList]
    show some (xs.toList.getD (xs.size - 1 - i) .none) = _
    rw [List.getD_eq_getElem?_getD, List.getElem?_eq_getElem (by rw [Array.length_toList]; omega)]
    rfl
  · rw [List.getElem?_eq_none (by rw [List.length_range]; omega), List.getElem?_eq_none (by rw [List.length_reverse, Array.length_toList]; omega)]
    rfl
theorem getItem_tuple_rev {t sl : Addr} {items : Array Value} {vl vu vs : Value} {Q : Value → Shared → Prop} (ht : IsTup s.heap t items) (hs : s.heap.IsSliceOf sl vl vu vs) (pl : IsPart vl none) (pu : IsPart vu none) (ps : IsPart vs (some (-1)))
    (h : Q (.ref s.heap.objs.size) { s with heap := s.heap.push { cls := .type "tuple", data := .seq items.toList.reverse.toArray } })
    (hsz : items.size ≤ sizeLine) : wpAny (model prog w) A (getItem (.ref t) (.ref sl)) Q E s := by
  have htake : sizeOk (.seq items.toList.reverse.toArray) := by
    show items.toList.reverse.toArray.size ≤ sizeLine
    rw [List.size_toArray, List.length_reverse, Array.length_toList]
    omega
  obtain ⟨os, hos, hcs, hds⟩ := id hs
  have hTs : s.TypeIs (.ref sl) "slice" := ⟨os, hos, hcs⟩
  unfold getItem
  try with_reducible refine wpAny_holding ?_
  first | refine wpAny_bind (wpAny_pure ?_) | skip
  refine wpAny_bind (wpAny_sequenceKey ht.typeIs (by decide) ?_)
  refine wpAny_bind (wpAny_callSpecial?_slot (name := Str.ofString "__getitem__") ht.typeIs PyProof.Rows.slot_tuple_getitem
    (wpAny_call_entry PyProof.Rows.slot_tuple_getitem ht.typeIs entry_tuple_getitem ?_ (args_tuple_getitem _ _)))
  show wpAny _ _ (Builtin.Tuple.tupleItemsOf (.ref t) >>= _) _ _ s
  refine wpAny_bind (tupleItemsOf_ ht ?_)
  refine wpAny_bind (wpAny_typeOf hTs ?_)
  rw [if_pos (by decide)]
  refine wpAny_bind (sliceApplied_rev hs pl pu ps ?_)
  have hno : ¬ ((((items.size : Int) - 1) == 0 && (-1 : Int) == 1 && items.size == items.size) = true) := by
    rw [show ((-1 : Int) == 1) = false by decide, Bool.and_false, Bool.false_and]
    exact Bool.false_ne_true
  show wpAny _ _ (if (((items.size : Int) - 1) == 0 && (-1 : Int) == 1 && items.size == items.size) = true then _ else _) _ _ s
  rw [if_neg hno, pick_rev]
  first
    | exact wpAny_bind (m := Builtin.Tuple.tupleExact _) (wpAny_newObj_type (wpAny_pure ⟨_, rfl, wpAny_pure h⟩) htake)
    | exact wpAny_bind (m := Builtin.Tuple.tupleExact _) (wpAny_newObj_type (wpAny_bind (wpAny_pure (wpAny_pure ⟨_, rfl, wpAny_pure h⟩))) htake)
    | exact wpAny_bind (wpAny_bind (m := Builtin.Tuple.tupleExact _) (wpAny_newObj_type (wpAny_pure (wpAny_pure ⟨_, rfl, wpAny_pure h⟩)) htake))
    | exact wpAny_bind (wpAny_bind (m := Builtin.Tuple.tupleExact _) (wpAny_newObj_type (wpAny_pure ⟨_, rfl, wpAny_pure h⟩) htake))
end
end HT
namespace G
open PySem PySem.Spec L2 PyProof.Rows
/-- a list's or a tuple's items backwards -/
def tRevQ (K : PySem.W.Frag) (te : TE) : TE := fun σ H Q => te σ H fun x H1 => ∃ a xs, x = .ref a ∧ ((SqL K H1 a xs ∧ ∀ p, H1 p = none → Q (.ref p) (upd H1 p (.lst xs.reverse))) ∨ (SqT K H1 a xs ∧ ∀ p, H1 p = none → Q (.ref p) (upd H1 p (.tup xs.reverse))))
theorem pe_revQ {X : Cx} {e : Expr} {te : TE} {k : Nat} {p1 p2 p3 pos : Pos} (he : PE X e te) : PE X (.Subscript e (.Slice none none (some (.UnaryOp .USub (.Constant (.int 1) k p1) p2)) p3) pos) (tRevQ X.K te) := by
  refine ⟨fun pins s σ H Q I h => ?_⟩
  refine Subscript_ (thn (he.run pins s σ H _ I h) fun v s1 ⟨x, H1, I1, r1, q1⟩ => ?_)
  obtain ⟨a, xs, ex, hx⟩ := q1
  subst ex
  cases r1
  have hst : PO X (some (.UnaryOp .USub (.Constant (.int 1) k p1) p2)) (tPart (tUn (rU fun i => .int (-i)) (tC (.int 1)))) := po_some (pe_un un_neg pe_int)
  refine wpAny_Slice (thn (po_none.run pins s1 σ H1 (fun o H2 => o = none ∧ H2 = H1) I1 ⟨rfl, rfl⟩) fun vl s2 ⟨l, H2, I2, pl, el, e2⟩ => ?_)
  subst el e2
  refine thn (po_none.run pins s2 σ H2 (fun o H3 => o = none ∧ H3 = H2) I2 ⟨rfl, rfl⟩) fun vu s3 ⟨u, H3, I3, pu, eu, e3⟩ => ?_
  subst eu e3
  refine thn (hst.run pins s3 σ H3 (fun o H4 => o = some (-1) ∧ H4 = H3) I3 ⟨1, rfl, -1, rfl, rfl, rfl⟩) fun vs s4 ⟨o, H4, I4, ps, eo, e4⟩ => ?_
  subst eo e4
  have I5 : Inv X pins σ H4 { s4 with heap := s4.heap.push { cls := .type "slice", data := .fields #[vl, vu, vs] } } := I4.kept (t' := s4.toks) fun b ob q => Heap.get?_push_of_some _ q
  show wpAny (model X.prog X.w) X.A (subscriptTail e (.Slice none none (some (.UnaryOp .USub (.Constant (.int 1) k p1) p2)) p3) (.ref a) (.ref s4.heap.objs.size)) (EP X pins σ Q) X.xe { s4 with heap := s4.heap.push { cls := .type "slice", data := .fields #[vl, vu, vs] } }
  rcases hx with ⟨hx, q⟩ | ⟨hx, q⟩
  · obtain ⟨its, r, ht, hz⟩ := I5.list hx
    have hlen := r.length
    refine tail_any (ops := [.ref a, .ref s4.heap.objs.size]) ht.isList.typeIs (PySem.slot_list_getitem.lookup) ?_ (by with_unfolding_all rfl)
    refine wpAny_getItem_list_slice ht.isList (Heap.IsSliceOf.new _ vl vu vs) pl pu ps (by decide) ?_ (by rw [List.size_toArray]; omega)
    rw [PySem.W.krv_pick]
    refine ⟨.ref _, _, I5.laid (t' := s4.toks) (o := .lst xs.reverse) (fun b ob q => Heap.get?_push_of_some _ q) (Nat.le_refl _) ?_, rfl, q _ (I5.hok.fresh (Nat.le_refl _))⟩
    exact ⟨by rw [List.length_reverse]; exact hz, _, 0, r.reverse, Heap.get?_push_size _ rfl⟩
  · obtain ⟨its, r, ht, hz⟩ := I5.tuple hx
    have hlen := r.length
    refine tail_any (ops := [.ref a, .ref s4.heap.objs.size]) ht.typeIs (PyProof.Rows.slot_tuple_getitem.lookup) ?_ (by with_unfolding_all rfl)
    refine HT.getItem_tuple_rev ht (Heap.IsSliceOf.new _ vl vu vs) pl pu ps ?_ (by rw [List.size_toArray]; omega)
    refine ⟨.ref _, _, I5.laid (t' := s4.toks) (o := .tup xs.reverse) (fun b ob q => Heap.get?_push_of_some _ q) (Nat.le_refl _) ?_, rfl, q _ (I5.hok.fresh (Nat.le_refl _))⟩
    exact ⟨by rw [List.length_reverse]; exact hz, _, r.reverse, IsTup.new _ _⟩
def sRevQ : Spec := fun ds cs Q _ => ∃ x xs, ds = [x] ∧ ((x = .tup xs ∧ Q (.tup xs.reverse) cs) ∨ (getL x cs = some xs ∧ Q (.lst xs.reverse) cs))
section
variable {X : Cx} {W : WX} {pos : Pos} {a : Expr} {ca : E}
theorem j_revQ {k : Nat} {p1 p2 p3 : Pos} (ha : JE X W a ca) : JE X W (.Subscript a (.Slice none none (some (.UnaryOp .USub (.Constant (.int 1) k p1) p2)) p3) pos) (.app sRevQ (.cons ca .nil)) := by
  obtain ⟨ta, q1, r1⟩ := ha
  refine ⟨_, pe_revQ q1, fun wd F τ cs σ H P PX Q R rs h q x => ?_⟩
  refine r1 wd F τ cs σ H _ PX _ R rs h (fun wd1 d c1 v H1 l1 R1 rv h1 => ?_) x
  obtain ⟨d', xs, ed, hd⟩ := h1
  cases ed
  rcases hd with ⟨rfl, hP⟩ | ⟨hg, hP⟩
  · obtain ⟨a, vs, ev, s1, r2⟩ := rv
    refine ⟨a, vs, ev, .inr ⟨SqT.of (R1.b a _ s1), fun p hp => ?_⟩⟩
    obtain ⟨wd2, l2, R2, r3⟩ := R1.tup hp (RpL.reverse r2)
    exact q wd2 _ c1 _ _ (l1.trans l2) R2 r3 hP
  · obtain ⟨a, vs, ev, s1, r2⟩ := R1.getL rv hg
    refine ⟨a, vs, ev, .inl ⟨SqL.of s1, fun p hp => ?_⟩⟩
    obtain ⟨wd2, l2, R2, r3⟩ := R1.lst hp (RpL.reverse r2)
    exact q wd2 _ c1 _ _ (l1.trans l2) R2 r3 hP
end
end G

namespace K11
open PySem L2 G
def top (i : Nat) : Stmt := PySem.Challenge.pw_findforests_k11_histories_checked.main.body.getD i (.Pass ⟨0, 0, 0, 0⟩)
abbrev s_need_node : Stmt := top 10
abbrev N_need_node : List Str := ["forest", "node"]
theorem sc_need_node : FnScope N_need_node ["forest", "node"] (defScope s_need_node) := ⟨rfl, rfl, rfl, by decide +kernel, rfl, by decide +kernel, by decide +kernel⟩
theorem js_need_node {P : Program} {w : World} {K : PySem.W.Frag} {mg : Str → Option Value} {base : Heap} {k : Nat} (n_len : mg "len" = none) (XC_NoNode : Xc P w K mg base "NoNode" "node") (l_rse : 2 ≤ k) {f : Addr} {cdv : Value} {A : Around} {outer : List Env} {s : Shared} {H : Hp} {E : XK}
    (C : Ct (cxOf (L2N.CX P w) P w K mg base N_need_node "need_node" (defScope s_need_node) f cdv A outer s H E) (wxOf E) k) :
    JSs (cxOf (L2N.CX P w) P w K mg base N_need_node "need_node" (defScope s_need_node) f cdv A outer s H E) (wxOf E) (defBody s_need_node) (c_need_nodeX) :=
  (jss_one (js_if (jt_not (jt_chLeLt j_int (j_v 1) (j_len (by rfl) n_len (j_v 0)))) (jss_one (js_raise XC_NoNode (C.hr.mono l_rse) C.tk C.hc (by rfl) (j_v 1))) jss_nil))
abbrev s_path_of : Stmt := top 11
abbrev N_path_of : List Str := ["forest", "node", "result"]
theorem sc_path_of : FnScope N_path_of ["forest", "node"] (defScope s_path_of) := ⟨rfl, rfl, rfl, by decide +kernel, rfl, by decide +kernel, by decide +kernel⟩
theorem js_path_of {P : Program} {w : World} {K : PySem.W.Frag} {mg : Str → Option Value} {base : Heap} {k : Nat} {p_need_node : G.Spec} {k_need_node n_need_node : Nat} (F_need_node : Fn P w K mg base "need_node" k_need_node n_need_node p_need_node) (l_need_node : k_need_node ≤ k) {f : Addr} {cdv : Value} {A : Around} {outer : List Env} {s : Shared} {H : Hp} {E : XK}
    (C : Ct (cxOf (L2N.CX P w) P w K mg base N_path_of "path_of" (defScope s_path_of) f cdv A outer s H E) (wxOf E) k) :
    JSs (cxOf (L2N.CX P w) P w K mg base N_path_of "path_of" (defScope s_path_of) f cdv A outer s H E) (wxOf E) (defBody s_path_of) (c_path_of p_need_node) :=
  (jss_cons (js_exp (j_call F_need_node (C.hr.mono l_need_node) C.tk (by rfl) (ja_cons (j_v 0) (ja_cons (j_v 1) ja_nil))))
  (jss_cons (js_set 2 C.hN rfl (by first | exact Or.inl rfl | exact Or.inr rfl) (j_listM (ja_cons (j_v 1) ja_nil)))
  (jss_cons (js_while C.hp (jt_ne C.hu (j_ix (j_v 0) (j_ix (j_v 2) (j_neg j_int))) (j_ix (j_v 2) (j_neg j_int))) (jss_one (js_exp (j_append (j_v 2) (j_ix (j_v 0) (j_ix (j_v 2) (j_neg j_int)))))))
  (jss_frz 2 (jss_one (js_ret (j_v 2)))))))
abbrev s_compressed : Stmt := top 13
abbrev N_compressed : List Str := ["forest", "nodes", "root", "node", "above"]
theorem sc_compressed : FnScope N_compressed ["forest", "nodes", "root"] (defScope s_compressed) := ⟨rfl, rfl, rfl, by decide +kernel, rfl, by decide +kernel, by decide +kernel⟩
theorem js_compressed {P : Program} {w : World} {K : PySem.W.Frag} {mg : Str → Option Value} {base : Heap} {k : Nat} (n_enumerate : mg "enumerate" = none) (n_tuple : mg "tuple" = none) {f : Addr} {cdv : Value} {A : Around} {outer : List Env} {s : Shared} {H : Hp} {E : XK}
    (C : Ct (cxOf (L2N.CX P w) P w K mg base N_compressed "compressed" (defScope s_compressed) f cdv A outer s H E) (wxOf E) k) :
    JSs (cxOf (L2N.CX P w) P w K mg base N_compressed "compressed" (defScope s_compressed) f cdv A outer s H E) (wxOf E) (defBody s_compressed) (c_compressed) :=
  (jss_one (js_ret (j_tupOf (by rfl) n_tuple (j_comp false (own := [("node", 3), ("above", 4)]) rfl C.hN (ji_enum (by rfl) n_enumerate (j_v 0)) (blkOk_by (N := N_compressed) (sc := defScope s_compressed) (own := [("node", 3), ("above", 4)]) (by decide +kernel)) (fun _ _ _ _ _ => (jg_tup rfl (jgs_cons (jg_nm 3 C.hN rfl (by first | exact Or.inl rfl | exact Or.inr rfl) (by decide)) (jgs_cons (jg_nm 4 C.hN rfl (by first | exact Or.inl rfl | exact Or.inr rfl) (by decide)) jgs_nil)))) (fun _ _ _ _ _ => jts_nil) (fun _ _ _ _ _ => (je_if (jt_in (j_v 3) (j_v 1)) (j_v 2) (j_v 4)))))))
def c_find : S := (.seq G.stuck G.stuck)
abbrev s_find : Stmt := top 14
abbrev N_find : List Str := ["forest", "node", "line"]
theorem sc_find : FnScope N_find ["forest", "node"] (defScope s_find) := ⟨rfl, rfl, rfl, by decide +kernel, rfl, by decide +kernel, by decide +kernel⟩
theorem js_find {P : Program} {w : World} {K : PySem.W.Frag} {mg : Str → Option Value} {base : Heap} {k : Nat} {f : Addr} {cdv : Value} {A : Around} {outer : List Env} {s : Shared} {H : Hp} {E : XK}
    (C : Ct (cxOf (L2N.CX P w) P w K mg base N_find "find" (defScope s_find) f cdv A outer s H E) (wxOf E) k) :
    JSs (cxOf (L2N.CX P w) P w K mg base N_find "find" (defScope s_find) f cdv A outer s H E) (wxOf E) (defBody s_find) (c_find) :=
  (jss_cons js_stuck
  (jss_one js_stuck))
abbrev s_need_root : Stmt := top 15
abbrev N_need_root : List Str := ["forest", "node"]
theorem sc_need_root : FnScope N_need_root ["forest", "node"] (defScope s_need_root) := ⟨rfl, rfl, rfl, by decide +kernel, rfl, by decide +kernel, by decide +kernel⟩
theorem js_need_root {P : Program} {w : World} {K : PySem.W.Frag} {mg : Str → Option Value} {base : Heap} {k : Nat} {p_need_node : G.Spec} {k_need_node n_need_node : Nat} (F_need_node : Fn P w K mg base "need_node" k_need_node n_need_node p_need_node) (l_need_node : k_need_node ≤ k) (XC_NotRoot : Xc P w K mg base "NotRoot" "node") (l_rse : 2 ≤ k) {f : Addr} {cdv : Value} {A : Around} {outer : List Env} {s : Shared} {H : Hp} {E : XK}
    (C : Ct (cxOf (L2N.CX P w) P w K mg base N_need_root "need_root" (defScope s_need_root) f cdv A outer s H E) (wxOf E) k) :
    JSs (cxOf (L2N.CX P w) P w K mg base N_need_root "need_root" (defScope s_need_root) f cdv A outer s H E) (wxOf E) (defBody s_need_root) (c_need_rootX p_need_node) :=
  (jss_cons (js_exp (j_call F_need_node (C.hr.mono l_need_node) C.tk (by rfl) (ja_cons (j_v 0) (ja_cons (j_v 1) ja_nil))))
  (jss_one (js_if (jt_ne C.hu (j_ix (j_v 0) (j_v 1)) (j_v 1)) (jss_one (js_raise XC_NotRoot (C.hr.mono l_rse) C.tk C.hc (by rfl) (j_v 1))) jss_nil)))
def c_linkX : S := (.seq G.stuck (.seq G.stuck (.seq G.stuck G.stuck)))
abbrev s_link : Stmt := top 16
abbrev N_link : List Str := ["forest", "child", "above"]
theorem sc_link : FnScope N_link ["forest", "child", "above"] (defScope s_link) := ⟨rfl, rfl, rfl, by decide +kernel, rfl, by decide +kernel, by decide +kernel⟩
theorem js_link {P : Program} {w : World} {K : PySem.W.Frag} {mg : Str → Option Value} {base : Heap} {k : Nat} {f : Addr} {cdv : Value} {A : Around} {outer : List Env} {s : Shared} {H : Hp} {E : XK}
    (C : Ct (cxOf (L2N.CX P w) P w K mg base N_link "link" (defScope s_link) f cdv A outer s H E) (wxOf E) k) :
    JSs (cxOf (L2N.CX P w) P w K mg base N_link "link" (defScope s_link) f cdv A outer s H E) (wxOf E) (defBody s_link) (c_linkX) :=
  (jss_cons js_stuck
  (jss_cons js_stuck
  (jss_cons js_stuck
  (jss_one js_stuck))))
abbrev s_check_tuple : Stmt := top 22
abbrev N_check_tuple : List Str := ["step", "nesting", "pos"]
theorem sc_check_tuple : FnScope N_check_tuple ["step", "nesting", "pos"] (defScope s_check_tuple) := ⟨rfl, rfl, rfl, by decide +kernel, rfl, by decide +kernel, by decide +kernel⟩
theorem js_check_tuple {P : Program} {w : World} {K : PySem.W.Frag} {mg : Str → Option Value} {base : Heap} {k : Nat} (n_int : mg "int" = none) (n_isinstance : mg "isinstance" = none) (n_len : mg "len" = none) (m_COUNT_LIMIT : ∃ t, mg "COUNT_LIMIT" = some (.int 1000000000000000000000000000000 t)) (m_MAX_NESTING : ∃ t, mg "MAX_NESTING" = some (.int 4 t)) (XC_BadStep : Xc P w K mg base "BadStep" "pos") (l_rse : 2 ≤ k) {f : Addr} {cdv : Value} {A : Around} {outer : List Env} {s : Shared} {H : Hp} {E : XK}
    (C : Ct (cxOf (L2N.CX P w) P w K mg base N_check_tuple "check_tuple" (defScope s_check_tuple) f cdv A outer s H E) (wxOf E) k) :
    JSs (cxOf (L2N.CX P w) P w K mg base N_check_tuple "check_tuple" (defScope s_check_tuple) f cdv A outer s H E) (wxOf E) (defBody s_check_tuple) (c_check_tupleX) :=
  (jss_cons (js_if (jt_w (jw_or (jt_ne C.hu (j_len (by rfl) n_len (j_v 0)) j_int) (jw_or1 (jt_notIn (j_ix (j_v 0) j_int) (j_tup (ja_cons j_str (ja_cons j_str ja_nil))))))) (jss_one (js_raise XC_BadStep (C.hr.mono l_rse) C.tk C.hc (by rfl) (j_v 2))) jss_nil)
  (jss_cons (js_if (jt_w (jw_and (jt_eq C.hu (j_ix (j_v 0) j_int) j_str) (jw_and1 (jt_w (jw_or (jt_gt (j_v 1) j_int) (jw_or1 (jt_not (jt_val (j_isi (t := .int) (by rfl) n_isinstance (by rfl) n_int boot_intG (j_ix (j_v 0) j_int)))))))))) (jss_one (js_raise XC_BadStep (C.hr.mono l_rse) C.tk C.hc (by rfl) (j_v 2))) jss_nil)
  (jss_one (js_if (jt_w (jw_and (jt_eq C.hu (j_ix (j_v 0) j_int) j_str) (jw_and1 (jt_w (jw_or (jt_val (j_isi (t := .int) (by rfl) n_isinstance (by rfl) n_int boot_intG (j_ix (j_v 0) j_int))) (jw_or (jt_eq C.hu (j_v 1) (j_gint (by rfl) m_MAX_NESTING)) (jw_or1 (jt_not (jt_chLeLe j_int (j_ix (j_v 0) j_int) (j_gint (by rfl) m_COUNT_LIMIT)))))))))) (jss_one (js_raise XC_BadStep (C.hr.mono l_rse) C.tk C.hc (by rfl) (j_v 2))) jss_nil))))
abbrev s_check_steps : Stmt := top 23
abbrev N_check_steps : List Str := ["steps", "nesting", "pos", "step"]
theorem sc_check_steps : FnScope N_check_steps ["steps", "nesting", "pos"] (defScope s_check_steps) := ⟨rfl, rfl, rfl, by decide +kernel, rfl, by decide +kernel, by decide +kernel⟩
theorem js_check_steps {P : Program} {w : World} {K : PySem.W.Frag} {mg : Str → Option Value} {base : Heap} {k : Nat} (n_int : mg "int" = none) (n_isinstance : mg "isinstance" = none) (m_MAX_STEPS : ∃ t, mg "MAX_STEPS" = some (.int 100 t)) {p_check_steps : G.Spec} {k_check_steps n_check_steps : Nat} (F_check_steps : Fn P w K mg base "check_steps" k_check_steps n_check_steps p_check_steps) (l_check_steps : k_check_steps ≤ k) {p_check_tuple : G.Spec} {k_check_tuple n_check_tuple : Nat} (F_check_tuple : Fn P w K mg base "check_tuple" k_check_tuple n_check_tuple p_check_tuple) (l_check_tuple : k_check_tuple ≤ k) (XC_TooLong : Xc P w K mg base "TooLong" "limit") (l_rse : 2 ≤ k) {f : Addr} {cdv : Value} {A : Around} {outer : List Env} {s : Shared} {H : Hp} {E : XK}
    (C : Ct (cxOf (L2N.CX P w) P w K mg base N_check_steps "check_steps" (defScope s_check_steps) f cdv A outer s H E) (wxOf E) k) :
    JSs (cxOf (L2N.CX P w) P w K mg base N_check_steps "check_steps" (defScope s_check_steps) f cdv A outer s H E) (wxOf E) (defBody s_check_steps) (c_check_stepsX p_check_steps p_check_tuple) :=
  (jss_cons (js_for (own := [3]) C.hp rfl (ji_seq (j_v 0)) (jg_nm 3 C.hN rfl (by first | exact Or.inl rfl | exact Or.inr rfl) (by decide)) (jss_cons (js_if (jt_eq C.hu (j_v 2) (j_gint (by rfl) m_MAX_STEPS)) (jss_one (js_raise XC_TooLong (C.hr.mono l_rse) C.tk C.hc (by rfl) (j_gint (by rfl) m_MAX_STEPS))) jss_nil)
  (jss_cons (js_augAdd 2 C.hN rfl (by first | exact Or.inl rfl | exact Or.inr rfl) j_int)
  (jss_one (js_if (jt_not (jt_val (j_isi (t := .int) (by rfl) n_isinstance (by rfl) n_int boot_intG (j_v 3)))) (jss_cons (js_exp (j_call F_check_tuple (C.hr.mono l_check_tuple) C.tk (by rfl) (ja_cons (j_v 3) (ja_cons (j_v 1) (ja_cons (j_sub (j_v 2) j_int) ja_nil)))))
  (jss_one (js_if (jt_eq C.hu (j_ix (j_v 3) j_int) j_str) (jss_one (js_set 2 C.hN rfl (by first | exact Or.inl rfl | exact Or.inr rfl) (j_call F_check_steps (C.hr.mono l_check_steps) C.tk (by rfl) (ja_cons (j_ix (j_v 3) j_int) (ja_cons (j_add (j_v 1) j_int) (ja_cons (j_v 2) ja_nil)))))) jss_nil))) jss_nil)))))
  (jss_one (js_ret (j_v 2))))
abbrev s_check_history : Stmt := top 24
abbrev N_check_history : List Str := ["history"]
theorem sc_check_history : FnScope N_check_history ["history"] (defScope s_check_history) := ⟨rfl, rfl, rfl, by decide +kernel, rfl, by decide +kernel, by decide +kernel⟩
theorem js_check_history {P : Program} {w : World} {K : PySem.W.Frag} {mg : Str → Option Value} {base : Heap} {k : Nat} {p_check_steps : G.Spec} {k_check_steps n_check_steps : Nat} (F_check_steps : Fn P w K mg base "check_steps" k_check_steps n_check_steps p_check_steps) (l_check_steps : k_check_steps ≤ k) {f : Addr} {cdv : Value} {A : Around} {outer : List Env} {s : Shared} {H : Hp} {E : XK}
    (C : Ct (cxOf (L2N.CX P w) P w K mg base N_check_history "check_history" (defScope s_check_history) f cdv A outer s H E) (wxOf E) k) :
    JSs (cxOf (L2N.CX P w) P w K mg base N_check_history "check_history" (defScope s_check_history) f cdv A outer s H E) (wxOf E) (defBody s_check_history) (c_check_history p_check_steps) :=
  (jss_one (js_exp (j_call F_check_steps (C.hr.mono l_check_steps) C.tk (by rfl) (ja_cons (j_v 0) (ja_cons j_int (ja_cons j_int ja_nil))))))
def c_count_steps : S := (.seq G.stuck (.seq G.stuck G.stuck))
abbrev s_count_steps : Stmt := top 25
abbrev N_count_steps : List Str := ["steps", "total", "step"]
theorem sc_count_steps : FnScope N_count_steps ["steps"] (defScope s_count_steps) := ⟨rfl, rfl, rfl, by decide +kernel, rfl, by decide +kernel, by decide +kernel⟩
theorem js_count_steps {P : Program} {w : World} {K : PySem.W.Frag} {mg : Str → Option Value} {base : Heap} {k : Nat} {f : Addr} {cdv : Value} {A : Around} {outer : List Env} {s : Shared} {H : Hp} {E : XK}
    (C : Ct (cxOf (L2N.CX P w) P w K mg base N_count_steps "count_steps" (defScope s_count_steps) f cdv A outer s H E) (wxOf E) k) :
    JSs (cxOf (L2N.CX P w) P w K mg base N_count_steps "count_steps" (defScope s_count_steps) f cdv A outer s H E) (wxOf E) (defBody s_count_steps) (c_count_steps) :=
  (jss_cons js_stuck
  (jss_cons js_stuck
  (jss_one js_stuck)))
def c_count_finds_1 (p_check_history : G.Spec) : S := (.exp (.app p_check_history (.cons (.v 0) .nil)))
def c_count_finds (p_check_history : G.Spec) : S := (.seq (c_count_finds_1 p_check_history) G.stuck)
abbrev s_count_finds : Stmt := top 26
abbrev N_count_finds : List Str := ["history"]
theorem sc_count_finds : FnScope N_count_finds ["history"] (defScope s_count_finds) := ⟨rfl, rfl, rfl, by decide +kernel, rfl, by decide +kernel, by decide +kernel⟩
theorem js_count_finds {P : Program} {w : World} {K : PySem.W.Frag} {mg : Str → Option Value} {base : Heap} {k : Nat} {p_check_history : G.Spec} {k_check_history n_check_history : Nat} (F_check_history : Fn P w K mg base "check_history" k_check_history n_check_history p_check_history) (l_check_history : k_check_history ≤ k) {f : Addr} {cdv : Value} {A : Around} {outer : List Env} {s : Shared} {H : Hp} {E : XK}
    (C : Ct (cxOf (L2N.CX P w) P w K mg base N_count_finds "count_finds" (defScope s_count_finds) f cdv A outer s H E) (wxOf E) k) :
    JSs (cxOf (L2N.CX P w) P w K mg base N_count_finds "count_finds" (defScope s_count_finds) f cdv A outer s H E) (wxOf E) (defBody s_count_finds) (c_count_finds p_check_history) :=
  (jss_cons (js_exp (j_call F_check_history (C.hr.mono l_check_history) C.tk (by rfl) (ja_cons (j_v 0) ja_nil)))
  (jss_one js_stuck))
def c_note_found : S := G.stuck
abbrev s_note_found : Stmt := top 27
abbrev N_note_found : List Str := ["steps", "found", "step"]
theorem sc_note_found : FnScope N_note_found ["steps", "found"] (defScope s_note_found) := ⟨rfl, rfl, rfl, by decide +kernel, rfl, by decide +kernel, by decide +kernel⟩
theorem js_note_found {P : Program} {w : World} {K : PySem.W.Frag} {mg : Str → Option Value} {base : Heap} {k : Nat} {f : Addr} {cdv : Value} {A : Around} {outer : List Env} {s : Shared} {H : Hp} {E : XK}
    (C : Ct (cxOf (L2N.CX P w) P w K mg base N_note_found "note_found" (defScope s_note_found) f cdv A outer s H E) (wxOf E) k) :
    JSs (cxOf (L2N.CX P w) P w K mg base N_note_found "note_found" (defScope s_note_found) f cdv A outer s H E) (wxOf E) (defBody s_note_found) (c_note_found) :=
  (jss_one js_stuck)
def c_found_nodesQ_1 (p_check_history : G.Spec) : S := (.exp (.app p_check_history (.cons (.v 0) .nil)))
def c_found_nodesQ (p_check_history : G.Spec) : S := (.seq (c_found_nodesQ_1 p_check_history) (.seq G.stuck (.seq G.stuck G.stuck)))
abbrev s_found_nodes : Stmt := top 28
abbrev N_found_nodes : List Str := ["history", "found"]
theorem sc_found_nodes : FnScope N_found_nodes ["history"] (defScope s_found_nodes) := ⟨rfl, rfl, rfl, by decide +kernel, rfl, by decide +kernel, by decide +kernel⟩
theorem js_found_nodes {P : Program} {w : World} {K : PySem.W.Frag} {mg : Str → Option Value} {base : Heap} {k : Nat} {p_check_history : G.Spec} {k_check_history n_check_history : Nat} (F_check_history : Fn P w K mg base "check_history" k_check_history n_check_history p_check_history) (l_check_history : k_check_history ≤ k) {f : Addr} {cdv : Value} {A : Around} {outer : List Env} {s : Shared} {H : Hp} {E : XK}
    (C : Ct (cxOf (L2N.CX P w) P w K mg base N_found_nodes "found_nodes" (defScope s_found_nodes) f cdv A outer s H E) (wxOf E) k) :
    JSs (cxOf (L2N.CX P w) P w K mg base N_found_nodes "found_nodes" (defScope s_found_nodes) f cdv A outer s H E) (wxOf E) (defBody s_found_nodes) (c_found_nodesQ p_check_history) :=
  (jss_cons (js_exp (j_call F_check_history (C.hr.mono l_check_history) C.tk (by rfl) (ja_cons (j_v 0) ja_nil)))
  (jss_cons js_stuck
  (jss_cons js_stuck
  (jss_one js_stuck))))
def c_with_tuples : S := (.seq G.stuck G.stuck)
abbrev s_with_tuples : Stmt := top 29
abbrev N_with_tuples : List Str := ["step", "inner"]
theorem sc_with_tuples : FnScope N_with_tuples ["step"] (defScope s_with_tuples) := ⟨rfl, rfl, rfl, by decide +kernel, rfl, by decide +kernel, by decide +kernel⟩
theorem js_with_tuples {P : Program} {w : World} {K : PySem.W.Frag} {mg : Str → Option Value} {base : Heap} {k : Nat} {f : Addr} {cdv : Value} {A : Around} {outer : List Env} {s : Shared} {H : Hp} {E : XK}
    (C : Ct (cxOf (L2N.CX P w) P w K mg base N_with_tuples "with_tuples" (defScope s_with_tuples) f cdv A outer s H E) (wxOf E) k) :
    JSs (cxOf (L2N.CX P w) P w K mg base N_with_tuples "with_tuples" (defScope s_with_tuples) f cdv A outer s H E) (wxOf E) (defBody s_with_tuples) (c_with_tuples) :=
  (jss_cons js_stuck
  (jss_one js_stuck))
def c_epochs_1 (p_check_history : G.Spec) : S := (.exp (.app p_check_history (.cons (.v 0) .nil)))
def c_epochs (p_check_history : G.Spec) : S := (.seq (c_epochs_1 p_check_history) (.seq G.stuck (.seq G.stuck (.seq (.frz 1) G.stuck))))
abbrev s_epochs : Stmt := top 30
abbrev N_epochs : List Str := ["history", "result", "step"]
theorem sc_epochs : FnScope N_epochs ["history"] (defScope s_epochs) := ⟨rfl, rfl, rfl, by decide +kernel, rfl, by decide +kernel, by decide +kernel⟩
theorem js_epochs {P : Program} {w : World} {K : PySem.W.Frag} {mg : Str → Option Value} {base : Heap} {k : Nat} {p_check_history : G.Spec} {k_check_history n_check_history : Nat} (F_check_history : Fn P w K mg base "check_history" k_check_history n_check_history p_check_history) (l_check_history : k_check_history ≤ k) {f : Addr} {cdv : Value} {A : Around} {outer : List Env} {s : Shared} {H : Hp} {E : XK}
    (C : Ct (cxOf (L2N.CX P w) P w K mg base N_epochs "epochs" (defScope s_epochs) f cdv A outer s H E) (wxOf E) k) :
    JSs (cxOf (L2N.CX P w) P w K mg base N_epochs "epochs" (defScope s_epochs) f cdv A outer s H E) (wxOf E) (defBody s_epochs) (c_epochs p_check_history) :=
  (jss_cons (js_exp (j_call F_check_history (C.hr.mono l_check_history) C.tk (by rfl) (ja_cons (j_v 0) ja_nil)))
  (jss_cons js_stuck
  (jss_cons js_stuck
  (jss_frz 1 (jss_one js_stuck)))))
def c_unrolled : S := (.seq G.stuck (.seq G.stuck (.seq (.frz 1) G.stuck)))
abbrev s_unrolled : Stmt := top 31
abbrev N_unrolled : List Str := ["steps", "result", "step"]
theorem sc_unrolled : FnScope N_unrolled ["steps"] (defScope s_unrolled) := ⟨rfl, rfl, rfl, by decide +kernel, rfl, by decide +kernel, by decide +kernel⟩
theorem js_unrolled {P : Program} {w : World} {K : PySem.W.Frag} {mg : Str → Option Value} {base : Heap} {k : Nat} {f : Addr} {cdv : Value} {A : Around} {outer : List Env} {s : Shared} {H : Hp} {E : XK}
    (C : Ct (cxOf (L2N.CX P w) P w K mg base N_unrolled "unrolled" (defScope s_unrolled) f cdv A outer s H E) (wxOf E) k) :
    JSs (cxOf (L2N.CX P w) P w K mg base N_unrolled "unrolled" (defScope s_unrolled) f cdv A outer s H E) (wxOf E) (defBody s_unrolled) (c_unrolled) :=
  (jss_cons js_stuck
  (jss_cons js_stuck
  (jss_frz 1 (jss_one js_stuck))))
def c_unrollX_1 (p_count_finds : G.Spec) : S := (.rse (fun ds => er "TooLong" "limit" (ds.headD .non)) (.cons (.v 1) .nil))
def c_unrollX_2 (p_count_finds : G.Spec) : S := (.ite (.app sGt (.cons (.app p_count_finds (.cons (.v 0) .nil)) (.cons (.v 1) .nil))) (c_unrollX_1 p_count_finds) .skip)
def c_unrollX (p_count_finds : G.Spec) : S := (.seq (c_unrollX_2 p_count_finds) G.stuck)
abbrev s_unroll : Stmt := top 32
abbrev N_unroll : List Str := ["history", "limit"]
theorem sc_unroll : FnScope N_unroll ["history", "limit"] (defScope s_unroll) := ⟨rfl, rfl, rfl, by decide +kernel, rfl, by decide +kernel, by decide +kernel⟩
theorem js_unroll {P : Program} {w : World} {K : PySem.W.Frag} {mg : Str → Option Value} {base : Heap} {k : Nat} {p_count_finds : G.Spec} {k_count_finds n_count_finds : Nat} (F_count_finds : Fn P w K mg base "count_finds" k_count_finds n_count_finds p_count_finds) (l_count_finds : k_count_finds ≤ k) (XC_TooLong : Xc P w K mg base "TooLong" "limit") (l_rse : 2 ≤ k) {f : Addr} {cdv : Value} {A : Around} {outer : List Env} {s : Shared} {H : Hp} {E : XK}
    (C : Ct (cxOf (L2N.CX P w) P w K mg base N_unroll "unroll" (defScope s_unroll) f cdv A outer s H E) (wxOf E) k) :
    JSs (cxOf (L2N.CX P w) P w K mg base N_unroll "unroll" (defScope s_unroll) f cdv A outer s H E) (wxOf E) (defBody s_unroll) (c_unrollX p_count_finds) :=
  (jss_cons (js_if (jt_gt (j_call F_count_finds (C.hr.mono l_count_finds) C.tk (by rfl) (ja_cons (j_v 0) ja_nil)) (j_v 1)) (jss_one (js_raise XC_TooLong (C.hr.mono l_rse) C.tk C.hc (by rfl) (j_v 1))) jss_nil)
  (jss_one js_stuck))
def c_run_round : S := (.seq G.stuck (.seq G.stuck G.stuck))
abbrev s_run_round : Stmt := top 33
abbrev N_run_round : List Str := ["forest", "steps", "total", "step", "cost"]
theorem sc_run_round : FnScope N_run_round ["forest", "steps"] (defScope s_run_round) := ⟨rfl, rfl, rfl, by decide +kernel, rfl, by decide +kernel, by decide +kernel⟩
theorem js_run_round {P : Program} {w : World} {K : PySem.W.Frag} {mg : Str → Option Value} {base : Heap} {k : Nat} {f : Addr} {cdv : Value} {A : Around} {outer : List Env} {s : Shared} {H : Hp} {E : XK}
    (C : Ct (cxOf (L2N.CX P w) P w K mg base N_run_round "run_round" (defScope s_run_round) f cdv A outer s H E) (wxOf E) k) :
    JSs (cxOf (L2N.CX P w) P w K mg base N_run_round "run_round" (defScope s_run_round) f cdv A outer s H E) (wxOf E) (defBody s_run_round) (c_run_round) :=
  (jss_cons js_stuck
  (jss_cons js_stuck
  (jss_one js_stuck)))
def c_run_history_1 (p_check_history : G.Spec) : S := (.exp (.app p_check_history (.cons (.v 1) .nil)))
def c_run_history (p_check_history : G.Spec) : S := (.seq (c_run_history_1 p_check_history) (.seq G.stuck (.seq G.stuck G.stuck)))
abbrev s_run_history : Stmt := top 34
abbrev N_run_history : List Str := ["forest", "history", "total", "step", "cost"]
theorem sc_run_history : FnScope N_run_history ["forest", "history"] (defScope s_run_history) := ⟨rfl, rfl, rfl, by decide +kernel, rfl, by decide +kernel, by decide +kernel⟩
theorem js_run_history {P : Program} {w : World} {K : PySem.W.Frag} {mg : Str → Option Value} {base : Heap} {k : Nat} {p_check_history : G.Spec} {k_check_history n_check_history : Nat} (F_check_history : Fn P w K mg base "check_history" k_check_history n_check_history p_check_history) (l_check_history : k_check_history ≤ k) {f : Addr} {cdv : Value} {A : Around} {outer : List Env} {s : Shared} {H : Hp} {E : XK}
    (C : Ct (cxOf (L2N.CX P w) P w K mg base N_run_history "run_history" (defScope s_run_history) f cdv A outer s H E) (wxOf E) k) :
    JSs (cxOf (L2N.CX P w) P w K mg base N_run_history "run_history" (defScope s_run_history) f cdv A outer s H E) (wxOf E) (defBody s_run_history) (c_run_history p_check_history) :=
  (jss_cons (js_exp (j_call F_check_history (C.hr.mono l_check_history) C.tk (by rfl) (ja_cons (j_v 1) ja_nil)))
  (jss_cons js_stuck
  (jss_cons js_stuck
  (jss_one js_stuck))))
def c_effect_differenceX_1 (p_found_nodes : G.Spec) : S := (.asg (.tup (.cons (.nm 3) (.cons (.nm 4) .nil))) (.app sTup (.cons (.app p_found_nodes (.cons (.v 0) .nil)) (.cons (.app p_found_nodes (.cons (.v 1) .nil)) .nil))))
def c_effect_differenceX (p_found_nodes : G.Spec) : S := (.seq (c_effect_differenceX_1 p_found_nodes) (.seq G.stuck (.seq G.stuck (.seq G.stuck (.seq G.stuck (.seq G.stuck G.stuck))))))
abbrev s_effect_difference : Stmt := top 35
abbrev N_effect_difference : List Str := ["one", "other", "size", "first", "second", "found", "node", "unlike", "root", "middle", "rest", "there"]
theorem sc_effect_difference : FnScope N_effect_difference ["one", "other", "size"] (defScope s_effect_difference) := ⟨rfl, rfl, rfl, by decide +kernel, rfl, by decide +kernel, by decide +kernel⟩
theorem js_effect_difference {P : Program} {w : World} {K : PySem.W.Frag} {mg : Str → Option Value} {base : Heap} {k : Nat} {p_found_nodes : G.Spec} {k_found_nodes n_found_nodes : Nat} (F_found_nodes : Fn P w K mg base "found_nodes" k_found_nodes n_found_nodes p_found_nodes) (l_found_nodes : k_found_nodes ≤ k) {f : Addr} {cdv : Value} {A : Around} {outer : List Env} {s : Shared} {H : Hp} {E : XK}
    (C : Ct (cxOf (L2N.CX P w) P w K mg base N_effect_difference "effect_difference" (defScope s_effect_difference) f cdv A outer s H E) (wxOf E) k) :
    JSs (cxOf (L2N.CX P w) P w K mg base N_effect_difference "effect_difference" (defScope s_effect_difference) f cdv A outer s H E) (wxOf E) (defBody s_effect_difference) (c_effect_differenceX p_found_nodes) :=
  (jss_cons (js_asg (own := [3, 4]) (j_tup (ja_cons (j_call F_found_nodes (C.hr.mono l_found_nodes) C.tk (by rfl) (ja_cons (j_v 0) ja_nil)) (ja_cons (j_call F_found_nodes (C.hr.mono l_found_nodes) C.tk (by rfl) (ja_cons (j_v 1) ja_nil)) ja_nil))) (jg_tup rfl (jgs_cons (jg_nm 3 C.hN rfl (by first | exact Or.inl rfl | exact Or.inr rfl) (by decide)) (jgs_cons (jg_nm 4 C.hN rfl (by first | exact Or.inl rfl | exact Or.inr rfl) (by decide)) jgs_nil))))
  (jss_cons js_stuck
  (jss_cons js_stuck
  (jss_cons js_stuck
  (jss_cons js_stuck
  (jss_cons js_stuck
  (jss_one js_stuck)))))))
def c_format_step : S := (.seq G.stuck (.seq G.stuck G.stuck))
abbrev s_format_step : Stmt := top 37
abbrev N_format_step : List Str := ["step"]
theorem sc_format_step : FnScope N_format_step ["step"] (defScope s_format_step) := ⟨rfl, rfl, rfl, by decide +kernel, rfl, by decide +kernel, by decide +kernel⟩
theorem js_format_step {P : Program} {w : World} {K : PySem.W.Frag} {mg : Str → Option Value} {base : Heap} {k : Nat} {f : Addr} {cdv : Value} {A : Around} {outer : List Env} {s : Shared} {H : Hp} {E : XK}
    (C : Ct (cxOf (L2N.CX P w) P w K mg base N_format_step "format_step" (defScope s_format_step) f cdv A outer s H E) (wxOf E) k) :
    JSs (cxOf (L2N.CX P w) P w K mg base N_format_step "format_step" (defScope s_format_step) f cdv A outer s H E) (wxOf E) (defBody s_format_step) (c_format_step) :=
  (jss_cons js_stuck
  (jss_cons js_stuck
  (jss_one js_stuck)))
def c_format_steps : S := G.stuck
abbrev s_format_steps : Stmt := top 38
abbrev N_format_steps : List Str := ["steps", "step"]
theorem sc_format_steps : FnScope N_format_steps ["steps"] (defScope s_format_steps) := ⟨rfl, rfl, rfl, by decide +kernel, rfl, by decide +kernel, by decide +kernel⟩
theorem js_format_steps {P : Program} {w : World} {K : PySem.W.Frag} {mg : Str → Option Value} {base : Heap} {k : Nat} {f : Addr} {cdv : Value} {A : Around} {outer : List Env} {s : Shared} {H : Hp} {E : XK}
    (C : Ct (cxOf (L2N.CX P w) P w K mg base N_format_steps "format_steps" (defScope s_format_steps) f cdv A outer s H E) (wxOf E) k) :
    JSs (cxOf (L2N.CX P w) P w K mg base N_format_steps "format_steps" (defScope s_format_steps) f cdv A outer s H E) (wxOf E) (defBody s_format_steps) (c_format_steps) :=
  (jss_one js_stuck)
def c_format_history_1 (p_check_history : G.Spec) : S := (.exp (.app p_check_history (.cons (.v 0) .nil)))
def c_format_history (p_check_history : G.Spec) : S := (.seq (c_format_history_1 p_check_history) G.stuck)
abbrev s_format_history : Stmt := top 39
abbrev N_format_history : List Str := ["history"]
theorem sc_format_history : FnScope N_format_history ["history"] (defScope s_format_history) := ⟨rfl, rfl, rfl, by decide +kernel, rfl, by decide +kernel, by decide +kernel⟩
theorem js_format_history {P : Program} {w : World} {K : PySem.W.Frag} {mg : Str → Option Value} {base : Heap} {k : Nat} {p_check_history : G.Spec} {k_check_history n_check_history : Nat} (F_check_history : Fn P w K mg base "check_history" k_check_history n_check_history p_check_history) (l_check_history : k_check_history ≤ k) {f : Addr} {cdv : Value} {A : Around} {outer : List Env} {s : Shared} {H : Hp} {E : XK}
    (C : Ct (cxOf (L2N.CX P w) P w K mg base N_format_history "format_history" (defScope s_format_history) f cdv A outer s H E) (wxOf E) k) :
    JSs (cxOf (L2N.CX P w) P w K mg base N_format_history "format_history" (defScope s_format_history) f cdv A outer s H E) (wxOf E) (defBody s_format_history) (c_format_history p_check_history) :=
  (jss_cons (js_exp (j_call F_check_history (C.hr.mono l_check_history) C.tk (by rfl) (ja_cons (j_v 0) ja_nil)))
  (jss_one js_stuck))
abbrev s__law_start : Stmt := top 41
abbrev N__law_start : List Str := ["_law_script"]
theorem sc__law_start : FnScope N__law_start ["_law_script"] (defScope s__law_start) := ⟨rfl, rfl, rfl, by decide +kernel, rfl, by decide +kernel, by decide +kernel⟩
theorem js__law_start {P : Program} {w : World} {K : PySem.W.Frag} {mg : Str → Option Value} {base : Heap} {k : Nat} (n_len : mg "len" = none) (n_list : mg "list" = none) {f : Addr} {cdv : Value} {A : Around} {outer : List Env} {s : Shared} {H : Hp} {E : XK}
    (C : Ct (cxOf (L2N.CX P w) P w K mg base N__law_start "_law_start" (defScope s__law_start) f cdv A outer s H E) (wxOf E) k) :
    JSs (cxOf (L2N.CX P w) P w K mg base N__law_start "_law_start" (defScope s__law_start) f cdv A outer s H E) (wxOf E) (defBody s__law_start) (c_start) :=
  (jss_one (js_ret (j_listM (ja_cons (j_listOf (by rfl) n_list (j_cutScr (j_v 0))) (ja_cons j_int (ja_cons j_int (ja_cons (j_add j_int (j_mul j_int (j_len (by rfl) n_len (j_cutScr (j_v 0))))) ja_nil)))))))
abbrev s__law_take : Stmt := top 42
abbrev N__law_take : List Str := ["_law_draw", "_law_many", "_law_cell", "_law_digit", "_law_square"]
theorem sc__law_take : FnScope N__law_take ["_law_draw", "_law_many"] (defScope s__law_take) := ⟨rfl, rfl, rfl, by decide +kernel, rfl, by decide +kernel, by decide +kernel⟩
theorem js__law_take {P : Program} {w : World} {K : PySem.W.Frag} {mg : Str → Option Value} {base : Heap} {k : Nat} (n_len : mg "len" = none) {f : Addr} {cdv : Value} {A : Around} {outer : List Env} {s : Shared} {H : Hp} {E : XK}
    (C : Ct (cxOf (L2N.CX P w) P w K mg base N__law_take "_law_take" (defScope s__law_take) f cdv A outer s H E) (wxOf E) k) :
    JSs (cxOf (L2N.CX P w) P w K mg base N__law_take "_law_take" (defScope s__law_take) f cdv A outer s H E) (wxOf E) (defBody s__law_take) (c_take) :=
  (jss_cons (js_if (jt_w (jw_and (jt_lt (j_ix (j_v 0) j_int) (j_v 1)) (jw_and1 (jt_lt (j_ix (j_v 0) j_int) (j_len (by rfl) n_len (j_ix (j_v 0) j_int)))))) (jss_cons (js_set 2 C.hN rfl (by first | exact Or.inl rfl | exact Or.inr rfl) (j_ix (j_ix (j_v 0) j_int) (j_ix (j_v 0) j_int)))
  (jss_cons (js_setIx (j_add (j_ix (j_v 0) j_int) j_int) (j_v 0) j_int)
  (jss_cons (js_setIx j_int (j_v 0) j_int)
  (jss_cons (js_if (jt_ge (j_v 2) (j_pow j_int j_int)) (jss_one (js_setIx (j_v 2) (j_v 0) j_int)) jss_nil)
  (jss_one (js_setIx (j_mod (j_add (j_add (j_mul (j_ix (j_v 0) j_int) j_int) (j_mul (j_mod (j_v 2) j_int) j_int)) (j_ix (j_v 0) j_int)) j_int) (j_v 0) j_int)))))) jss_nil)
  (jss_cons (js_if (jt_ge (j_ix (j_v 0) j_int) (j_v 1)) (jss_cons (js_set 3 C.hN rfl (by first | exact Or.inl rfl | exact Or.inr rfl) (j_mod (j_ix (j_v 0) j_int) (j_v 1)))
  (jss_cons (js_setIx (j_div (j_ix (j_v 0) j_int) (j_v 1)) (j_v 0) j_int)
  (jss_one (js_ret (j_v 3))))) jss_nil)
  (jss_cons (js_set 4 C.hN rfl (by first | exact Or.inl rfl | exact Or.inr rfl) (j_mod (j_mul (j_ix (j_v 0) j_int) (j_ix (j_v 0) j_int)) j_int))
  (jss_cons (js_setIx (j_mod (j_add (j_add (j_mul (j_v 4) j_int) (j_mul (j_ix (j_v 0) j_int) j_int)) j_int) j_int) (j_v 0) j_int)
  (jss_one (js_ret (j_mod (j_div (j_ix (j_v 0) j_int) j_int) (j_v 1))))))))
abbrev s__law_of : Stmt := top 43
abbrev N__law_of : List Str := ["_law_draw", "_law_some"]
theorem sc__law_of : FnScope N__law_of ["_law_draw", "_law_some"] (defScope s__law_of) := ⟨rfl, rfl, rfl, by decide +kernel, rfl, by decide +kernel, by decide +kernel⟩
theorem js__law_of {P : Program} {w : World} {K : PySem.W.Frag} {mg : Str → Option Value} {base : Heap} {k : Nat} (n_len : mg "len" = none) {p__law_take : G.Spec} {k__law_take n__law_take : Nat} (F__law_take : Fn P w K mg base "_law_take" k__law_take n__law_take p__law_take) (l__law_take : k__law_take ≤ k) {f : Addr} {cdv : Value} {A : Around} {outer : List Env} {s : Shared} {H : Hp} {E : XK}
    (C : Ct (cxOf (L2N.CX P w) P w K mg base N__law_of "_law_of" (defScope s__law_of) f cdv A outer s H E) (wxOf E) k) :
    JSs (cxOf (L2N.CX P w) P w K mg base N__law_of "_law_of" (defScope s__law_of) f cdv A outer s H E) (wxOf E) (defBody s__law_of) (c_of p__law_take) :=
  (jss_one (js_ret (j_ix (j_v 1) (j_call F__law_take (C.hr.mono l__law_take) C.tk (by rfl) (ja_cons (j_v 0) (ja_cons (j_len (by rfl) n_len (j_v 1)) ja_nil))))))
abbrev s__law_same : Stmt := top 44
abbrev N__law_same : List Str := ["_law_found", "_law_due", "_law_one", "_law_other"]
theorem sc__law_same : FnScope N__law_same ["_law_found", "_law_due"] (defScope s__law_same) := ⟨rfl, rfl, rfl, by decide +kernel, rfl, by decide +kernel, by decide +kernel⟩
theorem js__law_same {P : Program} {w : World} {K : PySem.W.Frag} {mg : Str → Option Value} {base : Heap} {k : Nat} (n_all : mg "all" = none) (n_bool : mg "bool" = none) (n_int : mg "int" = none) (n_isinstance : mg "isinstance" = none) (n_len : mg "len" = none) (n_list : mg "list" = none) (n_str : mg "str" = none) (n_tuple : mg "tuple" = none) (n_zip : mg "zip" = none) {p__law_same : G.Spec} {k__law_same n__law_same : Nat} (F__law_same : Fn P w K mg base "_law_same" k__law_same n__law_same p__law_same) (l__law_same : k__law_same ≤ k) {f : Addr} {cdv : Value} {A : Around} {outer : List Env} {s : Shared} {H : Hp} {E : XK}
    (C : Ct (cxOf (L2N.CX P w) P w K mg base N__law_same "_law_same" (defScope s__law_same) f cdv A outer s H E) (wxOf E) k) :
    JSs (cxOf (L2N.CX P w) P w K mg base N__law_same "_law_same" (defScope s__law_same) f cdv A outer s H E) (wxOf E) (defBody s__law_same) (c_same p__law_same) :=
  (jss_cons (js_if (jt_isN (j_v 1) j_non) (jss_one (js_ret (j_isN (j_v 0) j_non))) jss_nil)
  (jss_cons (js_if (jt_val (j_isi2 (t := .list) (t' := .tuple) (by rfl) n_isinstance (by rfl) n_list boot_listG (by rfl) n_tuple boot_tupleG (j_v 1))) (jss_cons (js_if (jt_w (jw_or (jt_ne C.hu (j_isi (t := .list) (by rfl) n_isinstance (by rfl) n_list boot_listG (j_v 0)) (j_isi (t := .list) (by rfl) n_isinstance (by rfl) n_list boot_listG (j_v 1))) (jw_or1 (jt_ne C.hu (j_isi (t := .tuple) (by rfl) n_isinstance (by rfl) n_tuple boot_tupleG (j_v 0)) (j_isi (t := .tuple) (by rfl) n_isinstance (by rfl) n_tuple boot_tupleG (j_v 1)))))) (jss_one (js_ret j_bl)) jss_nil)
  (jss_one (js_ret (je_and (j_eq C.hu (j_len (by rfl) n_len (j_v 0)) (j_len (by rfl) n_len (j_v 1))) (je_one (j_all rfl (by rfl) n_all (j_comp false (own := [("_law_one", 2), ("_law_other", 3)]) rfl C.hN (ji_zip (by rfl) n_zip (j_v 0) (j_v 1)) (blkOk_by (N := N__law_same) (sc := defScope s__law_same) (own := [("_law_one", 2), ("_law_other", 3)]) (by decide +kernel)) (fun _ _ _ _ _ => (jg_tup rfl (jgs_cons (jg_nm 2 C.hN rfl (by first | exact Or.inl rfl | exact Or.inr rfl) (by decide)) (jgs_cons (jg_nm 3 C.hN rfl (by first | exact Or.inl rfl | exact Or.inr rfl) (by decide)) jgs_nil)))) (fun _ _ _ _ _ => jts_nil) (fun _ _ _ _ _ => (j_call F__law_same (C.hr.mono l__law_same) takesN (by rfl) (ja_cons (j_v 2) (ja_cons (j_v 3) ja_nil))))))))))) jss_nil)
  (jss_cons (js_if (jt_w (jw_or (jt_ne C.hu (j_isi (t := .bool) (by rfl) n_isinstance (by rfl) n_bool boot_boolG (j_v 1)) (j_isi (t := .bool) (by rfl) n_isinstance (by rfl) n_bool boot_boolG (j_v 0))) (jw_or1 (jt_ne C.hu (j_isi (t := .int) (by rfl) n_isinstance (by rfl) n_int boot_intG (j_v 1)) (j_isi (t := .int) (by rfl) n_isinstance (by rfl) n_int boot_intG (j_v 0)))))) (jss_one (js_ret j_bl)) jss_nil)
  (jss_one (js_ret (je_and (j_eq C.hu (j_isi (t := .str) (by rfl) n_isinstance (by rfl) n_str boot_strG (j_v 1)) (j_isi (t := .str) (by rfl) n_isinstance (by rfl) n_str boot_strG (j_v 0))) (je_one (j_eq C.hu (j_v 0) (j_v 1)))))))))
abbrev s__law_step : Stmt := top 48
abbrev N__law_step : List Str := ["_law_draw", "_law_size", "_law_deep", "_law_count", "_law_steps", "_law_k"]
theorem sc__law_step : FnScope N__law_step ["_law_draw", "_law_size", "_law_deep"] (defScope s__law_step) := ⟨rfl, rfl, rfl, by decide +kernel, rfl, by decide +kernel, by decide +kernel⟩
theorem js__law_step {P : Program} {w : World} {K : PySem.W.Frag} {mg : Str → Option Value} {base : Heap} {k : Nat} (n_range : mg "range" = none) (n_tuple : mg "tuple" = none) {p__law_of : G.Spec} {k__law_of n__law_of : Nat} (F__law_of : Fn P w K mg base "_law_of" k__law_of n__law_of p__law_of) (l__law_of : k__law_of ≤ k) {p__law_step : G.Spec} {k__law_step n__law_step : Nat} (F__law_step : Fn P w K mg base "_law_step" k__law_step n__law_step p__law_step) (l__law_step : k__law_step ≤ k) {p__law_take : G.Spec} {k__law_take n__law_take : Nat} (F__law_take : Fn P w K mg base "_law_take" k__law_take n__law_take p__law_take) (l__law_take : k__law_take ≤ k) {f : Addr} {cdv : Value} {A : Around} {outer : List Env} {s : Shared} {H : Hp} {E : XK}
    (C : Ct (cxOf (L2N.CX P w) P w K mg base N__law_step "_law_step" (defScope s__law_step) f cdv A outer s H E) (wxOf E) k) :
    JSs (cxOf (L2N.CX P w) P w K mg base N__law_step "_law_step" (defScope s__law_step) f cdv A outer s H E) (wxOf E) (defBody s__law_step) (c_l_step p__law_of p__law_step p__law_take) :=
  (jss_cons (js_if (jt_w (jw_or (jt_eq C.hu (j_v 2) j_int) (jw_or1 (jt_gt (j_call F__law_take (C.hr.mono l__law_take) C.tk (by rfl) (ja_cons (j_v 0) (ja_cons j_int ja_nil))) j_int)))) (jss_one (js_ret (j_call F__law_take (C.hr.mono l__law_take) C.tk (by rfl) (ja_cons (j_v 0) (ja_cons (j_v 1) ja_nil))))) jss_nil)
  (jss_cons (js_set 3 C.hN rfl (by first | exact Or.inl rfl | exact Or.inr rfl) (j_call F__law_of (C.hr.mono l__law_of) C.tk (by rfl) (ja_cons (j_v 0) (ja_cons (j_list (k := 0) (ja_cons j_int (ja_cons j_int (ja_cons j_int (ja_cons j_int (ja_cons (j_call F__law_take (C.hr.mono l__law_take) C.tk (by rfl) (ja_cons (j_v 0) (ja_cons j_int ja_nil))) (ja_cons (j_pow j_int j_int) (ja_cons (j_call F__law_take (C.hr.mono l__law_take) C.tk (by rfl) (ja_cons (j_v 0) (ja_cons (j_pow j_int j_int) ja_nil))) ja_nil)))))))) ja_nil))))
  (jss_cons (js_setc 4 false (own := [("_law_k", 5)]) rfl C.hN rfl rfl (sw_true rfl rfl rfl (by decide +kernel)) (ji_rng1 (by rfl) n_range (j_call F__law_take (C.hr.mono l__law_take) C.tk (by rfl) (ja_cons (j_v 0) (ja_cons j_int ja_nil)))) (blkOk_by (N := N__law_step) (sc := defScope s__law_step) (own := [("_law_k", 5)]) (by decide +kernel)) (fun _ _ _ _ _ => (jg_nm 5 C.hN rfl (by first | exact Or.inl rfl | exact Or.inr rfl) (by decide))) (fun _ _ _ _ _ => jts_nil) (fun _ _ _ _ _ => (j_call F__law_step (C.hr.mono l__law_step) takesN (by rfl) (ja_cons (j_v 0) (ja_cons (j_v 1) (ja_cons (j_sub (j_v 2) j_int) ja_nil))))))
  (jss_one (js_ret (j_tup (ja_cons j_str (ja_cons (j_v 3) (ja_cons (j_call F__law_of (C.hr.mono l__law_of) C.tk (by rfl) (ja_cons (j_v 0) (ja_cons (j_list (k := 0) (ja_cons (j_tupOf (by rfl) n_tuple (j_v 4)) (ja_cons (j_v 4) ja_nil))) ja_nil))) ja_nil)))))))))
abbrev s__law_rounds : Stmt := top 49
abbrev N__law_rounds : List Str := ["_law_draw", "_law_size", "_law_most", "_law_deep", "_law_k"]
theorem sc__law_rounds : FnScope N__law_rounds ["_law_draw", "_law_size", "_law_most", "_law_deep"] (defScope s__law_rounds) := ⟨rfl, rfl, rfl, by decide +kernel, rfl, by decide +kernel, by decide +kernel⟩
theorem js__law_rounds {P : Program} {w : World} {K : PySem.W.Frag} {mg : Str → Option Value} {base : Heap} {k : Nat} (n_range : mg "range" = none) {p__law_step : G.Spec} {k__law_step n__law_step : Nat} (F__law_step : Fn P w K mg base "_law_step" k__law_step n__law_step p__law_step) (l__law_step : k__law_step ≤ k) {p__law_take : G.Spec} {k__law_take n__law_take : Nat} (F__law_take : Fn P w K mg base "_law_take" k__law_take n__law_take p__law_take) (l__law_take : k__law_take ≤ k) {f : Addr} {cdv : Value} {A : Around} {outer : List Env} {s : Shared} {H : Hp} {E : XK}
    (C : Ct (cxOf (L2N.CX P w) P w K mg base N__law_rounds "_law_rounds" (defScope s__law_rounds) f cdv A outer s H E) (wxOf E) k) :
    JSs (cxOf (L2N.CX P w) P w K mg base N__law_rounds "_law_rounds" (defScope s__law_rounds) f cdv A outer s H E) (wxOf E) (defBody s__law_rounds) (c_l_rounds p__law_step p__law_take) :=
  (jss_one (js_ret (j_comp false (own := [("_law_k", 4)]) rfl C.hN (ji_rng1 (by rfl) n_range (j_call F__law_take (C.hr.mono l__law_take) C.tk (by rfl) (ja_cons (j_v 0) (ja_cons (j_add (j_v 2) j_int) ja_nil)))) (blkOk_by (N := N__law_rounds) (sc := defScope s__law_rounds) (own := [("_law_k", 4)]) (by decide +kernel)) (fun _ _ _ _ _ => (jg_nm 4 C.hN rfl (by first | exact Or.inl rfl | exact Or.inr rfl) (by decide))) (fun _ _ _ _ _ => jts_nil) (fun _ _ _ _ _ => (j_call F__law_step (C.hr.mono l__law_step) takesN (by rfl) (ja_cons (j_v 0) (ja_cons (j_v 1) (ja_cons (j_v 3) ja_nil))))))))
def c_l_odd_step_1 (p__law_of : G.Spec) : S := (.ret (.app p__law_of (.cons (.v 0) (.cons (.app sList (.cons (.app sTup .nil) (.cons (.app sTup (.cons (.c (.str "find")) .nil)) (.cons (.app sTup (.cons (.c (.str "link")) (.cons (.v 1) (.cons (.v 1) .nil)))) (.cons (.app sTup (.cons (.c (.str "link")) (.cons (.c (.int 1)) .nil))) (.cons (.app sTup (.cons (.c (.str "link")) (.cons (.c (.int 1)) (.cons (.app sTup (.cons (.c (.int 2)) .nil)) .nil)))) (.cons (.app sPow (.cons (.c (.int 10)) (.cons (.c (.int 30)) .nil))) (.cons (.app sSub (.cons (.c (.int 0)) (.cons (.v 1) .nil))) .nil)))))))) .nil))))
def c_l_odd_step_2 (p__law_of : G.Spec) : S := (.ite (.app (sIsi .int) (.cons (.v 1) .nil)) (c_l_odd_step_1 p__law_of) .skip)
def c_l_odd_step_3 (p__law_of : G.Spec) : S := (.asg (.tup (.cons (.nm 2) (.cons (.nm 3) (.cons (.nm 4) .nil)))) (.v 1))
def c_l_odd_step_4 (p__law_of : G.Spec) : S := (.ret (.app p__law_of (.cons (.v 0) (.cons (.app sList (.cons (.app sTup (.cons (.c (.str "Link")) (.cons (.v 3) (.cons (.v 4) .nil)))) (.cons (.app sTup (.cons (.c (.str "link")) (.cons (.v 4) (.cons (.app sTup .nil) .nil)))) (.cons (.app sTup (.cons (.c (.str "repeat")) (.cons (.v 3) (.cons (.v 4) .nil)))) (.cons (.app sTup (.cons (.c (.str "link")) (.cons (.v 3) .nil))) .nil))))) .nil))))
def c_l_odd_step_5 (p__law_of : G.Spec) : S := (.ite (.app sEq (.cons (.v 2) (.cons (.c (.str "link")) .nil))) (c_l_odd_step_4 p__law_of) .skip)
def c_l_odd_step_6 (p__law_of : G.Spec) : S := (.asg (.nm 5) (.app sList (.cons (.app sTup (.cons (.c (.str "repeat")) (.cons (.app sSub (.cons (.c (.int 0)) (.cons (.c (.int 1)) .nil))) (.cons (.v 4) .nil)))) (.cons (.app sTup (.cons (.c (.str "repeat")) (.cons (.app sAdd (.cons (.app sPow (.cons (.c (.int 10)) (.cons (.c (.int 30)) .nil))) (.cons (.c (.int 1)) .nil))) (.cons (.v 4) .nil)))) (.cons (.app sTup (.cons (.c (.str "repeat")) (.cons (.app sPow (.cons (.c (.int 10)) (.cons (.c (.int 30)) .nil))) (.cons (.v 4) .nil)))) (.cons (.app sTup (.cons (.c (.str "link")) (.cons (.v 3) (.cons (.v 4) .nil)))) .nil))))))
def c_l_odd_step_7 (p__law_of : G.Spec) : S := (.ret (.app p__law_of (.cons (.v 0) (.cons (.app sAdd (.cons (.v 5) (.cons (.app sList (.cons (.app sTup (.cons (.c (.str "rounds")) (.cons (.v 3) (.cons (.v 4) .nil)))) (.cons (.app sTup (.cons (.c (.str "repeat")) (.cons (.v 3) .nil))) (.cons (.app sTup (.cons (.c (.str "repeat")) (.cons (.v 3) (.cons (.app sAddT (.cons (.app sTupOf (.cons (.v 4) .nil)) (.cons (.app sTup (.cons (.v 1) .nil)) .nil))) .nil)))) (.cons (.app sTup (.cons (.c (.str "")) (.cons (.c (.int 1)) (.cons (.c (.int 1)) .nil)))) .nil))))) .nil))) .nil))))
def c_l_odd_step (p__law_of : G.Spec) : S := (.seq (c_l_odd_step_2 p__law_of) (.seq (c_l_odd_step_3 p__law_of) (.seq (c_l_odd_step_5 p__law_of) (.seq (c_l_odd_step_6 p__law_of) (c_l_odd_step_7 p__law_of)))))
abbrev s__law_odd_step : Stmt := top 50
abbrev N__law_odd_step : List Str := ["_law_draw", "_law_step_here", "_law_word", "_law_one", "_law_two", "_law_odd"]
theorem sc__law_odd_step : FnScope N__law_odd_step ["_law_draw", "_law_step_here"] (defScope s__law_odd_step) := ⟨rfl, rfl, rfl, by decide +kernel, rfl, by decide +kernel, by decide +kernel⟩
theorem js__law_odd_step {P : Program} {w : World} {K : PySem.W.Frag} {mg : Str → Option Value} {base : Heap} {k : Nat} (n_int : mg "int" = none) (n_isinstance : mg "isinstance" = none) (n_tuple : mg "tuple" = none) {p__law_of : G.Spec} {k__law_of n__law_of : Nat} (F__law_of : Fn P w K mg base "_law_of" k__law_of n__law_of p__law_of) (l__law_of : k__law_of ≤ k) {f : Addr} {cdv : Value} {A : Around} {outer : List Env} {s : Shared} {H : Hp} {E : XK}
    (C : Ct (cxOf (L2N.CX P w) P w K mg base N__law_odd_step "_law_odd_step" (defScope s__law_odd_step) f cdv A outer s H E) (wxOf E) k) :
    JSs (cxOf (L2N.CX P w) P w K mg base N__law_odd_step "_law_odd_step" (defScope s__law_odd_step) f cdv A outer s H E) (wxOf E) (defBody s__law_odd_step) (c_l_odd_step p__law_of) :=
  (jss_cons (js_if (jt_val (j_isi (t := .int) (by rfl) n_isinstance (by rfl) n_int boot_intG (j_v 1))) (jss_one (js_ret (j_call F__law_of (C.hr.mono l__law_of) C.tk (by rfl) (ja_cons (j_v 0) (ja_cons (j_list (k := 0) (ja_cons (j_tup ja_nil) (ja_cons (j_tup (ja_cons j_str ja_nil)) (ja_cons (j_tup (ja_cons j_str (ja_cons (j_v 1) (ja_cons (j_v 1) ja_nil)))) (ja_cons (j_tup (ja_cons j_str (ja_cons j_int ja_nil))) (ja_cons (j_tup (ja_cons j_str (ja_cons j_int (ja_cons (j_tup (ja_cons j_int ja_nil)) ja_nil)))) (ja_cons (j_pow j_int j_int) (ja_cons (j_sub j_int (j_v 1)) ja_nil)))))))) ja_nil))))) jss_nil)
  (jss_cons (js_asg (own := [2, 3, 4]) (j_v 1) (jg_tup rfl (jgs_cons (jg_nm 2 C.hN rfl (by first | exact Or.inl rfl | exact Or.inr rfl) (by decide)) (jgs_cons (jg_nm 3 C.hN rfl (by first | exact Or.inl rfl | exact Or.inr rfl) (by decide)) (jgs_cons (jg_nm 4 C.hN rfl (by first | exact Or.inl rfl | exact Or.inr rfl) (by decide)) jgs_nil)))))
  (jss_cons (js_if (jt_eq C.hu (j_v 2) j_str) (jss_one (js_ret (j_call F__law_of (C.hr.mono l__law_of) C.tk (by rfl) (ja_cons (j_v 0) (ja_cons (j_list (k := 0) (ja_cons (j_tup (ja_cons j_str (ja_cons (j_v 3) (ja_cons (j_v 4) ja_nil)))) (ja_cons (j_tup (ja_cons j_str (ja_cons (j_v 4) (ja_cons (j_tup ja_nil) ja_nil)))) (ja_cons (j_tup (ja_cons j_str (ja_cons (j_v 3) (ja_cons (j_v 4) ja_nil)))) (ja_cons (j_tup (ja_cons j_str (ja_cons (j_v 3) ja_nil))) ja_nil))))) ja_nil))))) jss_nil)
  (jss_cons (js_set 5 C.hN rfl (by first | exact Or.inl rfl | exact Or.inr rfl) (j_list (k := 0) (ja_cons (j_tup (ja_cons j_str (ja_cons (j_sub j_int j_int) (ja_cons (j_v 4) ja_nil)))) (ja_cons (j_tup (ja_cons j_str (ja_cons (j_add (j_pow j_int j_int) j_int) (ja_cons (j_v 4) ja_nil)))) (ja_cons (j_tup (ja_cons j_str (ja_cons (j_pow j_int j_int) (ja_cons (j_v 4) ja_nil)))) (ja_cons (j_tup (ja_cons j_str (ja_cons (j_v 3) (ja_cons (j_v 4) ja_nil)))) ja_nil))))))
  (jss_one (js_ret (j_call F__law_of (C.hr.mono l__law_of) C.tk (by rfl) (ja_cons (j_v 0) (ja_cons (j_add (j_v 5) (j_list (k := 0) (ja_cons (j_tup (ja_cons j_str (ja_cons (j_v 3) (ja_cons (j_v 4) ja_nil)))) (ja_cons (j_tup (ja_cons j_str (ja_cons (j_v 3) ja_nil))) (ja_cons (j_tup (ja_cons j_str (ja_cons (j_v 3) (ja_cons (j_addT (j_tupOf (by rfl) n_tuple (j_v 4)) (j_tup (ja_cons (j_v 1) ja_nil))) ja_nil)))) (ja_cons (j_tup (ja_cons j_str (ja_cons j_int (ja_cons j_int ja_nil)))) ja_nil)))))) ja_nil)))))))))
def c_l_bent_1 (p__law_bent : G.Spec) (p__law_odd_step : G.Spec) (p__law_take : G.Spec) : S := (.ret (.v 1))
def c_l_bent_2 (p__law_bent : G.Spec) (p__law_odd_step : G.Spec) (p__law_take : G.Spec) : S := (.ite (.app sEq (.cons (.app sLen (.cons (.v 1) .nil)) (.cons (.c (.int 0)) .nil))) (c_l_bent_1 p__law_bent p__law_odd_step p__law_take) .skip)
def c_l_bent_3 (p__law_bent : G.Spec) (p__law_odd_step : G.Spec) (p__law_take : G.Spec) : S := (.asg (.nm 2) (.app p__law_take (.cons (.v 0) (.cons (.app sLen (.cons (.v 1) .nil)) .nil))))
def c_l_bent_4 (p__law_bent : G.Spec) (p__law_odd_step : G.Spec) (p__law_take : G.Spec) : S := (.asg (.nm 3) (.app sIx (.cons (.v 1) (.cons (.v 2) .nil))))
def c_l_bent_5 (p__law_bent : G.Spec) (p__law_odd_step : G.Spec) (p__law_take : G.Spec) : S := (.asg (.nm 3) (.app sTup (.cons (.app sIx (.cons (.v 3) (.cons (.c (.int 0)) .nil))) (.cons (.app sIx (.cons (.v 3) (.cons (.c (.int 1)) .nil))) (.cons (.app sTupOf (.cons (.app p__law_bent (.cons (.v 0) (.cons (.app sIx (.cons (.v 3) (.cons (.c (.int 2)) .nil))) .nil))) .nil)) .nil)))))
def c_l_bent_6 (p__law_bent : G.Spec) (p__law_odd_step : G.Spec) (p__law_take : G.Spec) : S := (.asg (.nm 3) (.app p__law_odd_step (.cons (.v 0) (.cons (.v 3) .nil))))
def c_l_bent_7 (p__law_bent : G.Spec) (p__law_odd_step : G.Spec) (p__law_take : G.Spec) : S := (.ite (.or (.app (sIsi .int) (.cons (.v 3) .nil)) (.app sEq (.cons (.app sEq (.cons (.app sIx (.cons (.v 3) (.cons (.c (.int 0)) .nil))) (.cons (.c (.str "link")) .nil))) (.cons (.app (sIsi .int) (.cons (.app sIx (.cons (.v 3) (.cons (.c (.int 2)) .nil))) .nil)) .nil)))) (c_l_bent_6 p__law_bent p__law_odd_step p__law_take) .skip)
def c_l_bent_8 (p__law_bent : G.Spec) (p__law_odd_step : G.Spec) (p__law_take : G.Spec) : S := (.ite (.and (.app sNot (.cons (.app (sIsi .int) (.cons (.v 3) .nil)) .nil)) (.and (.app sEq (.cons (.app sIx (.cons (.v 3) (.cons (.c (.int 0)) .nil))) (.cons (.c (.str "repeat")) .nil))) (.and (.app sNot (.cons (.app (sIsi .int) (.cons (.app sIx (.cons (.v 3) (.cons (.c (.int 2)) .nil))) .nil)) .nil)) (.app sGt (.cons (.app p__law_take (.cons (.v 0) (.cons (.c (.int 3)) .nil))) (.cons (.c (.int 0)) .nil)))))) (c_l_bent_5 p__law_bent p__law_odd_step p__law_take) (c_l_bent_7 p__law_bent p__law_odd_step p__law_take))
def c_l_bent_9 (p__law_bent : G.Spec) (p__law_odd_step : G.Spec) (p__law_take : G.Spec) : S := (.ite (.or (.app (sIsi .int) (.cons (.v 3) .nil)) (.app sEq (.cons (.app sLen (.cons (.v 3) .nil)) (.cons (.c (.int 3)) .nil)))) (c_l_bent_8 p__law_bent p__law_odd_step p__law_take) .skip)
def c_l_bent_10 (p__law_bent : G.Spec) (p__law_odd_step : G.Spec) (p__law_take : G.Spec) : S := (.ret (.app sAdd (.cons (.app sAdd (.cons (.app sListOf (.cons (.app sCutHi (.cons (.v 1) (.cons (.v 2) .nil))) .nil)) (.cons (.app sList (.cons (.v 3) .nil)) .nil))) (.cons (.app sListOf (.cons (.app sCutLo (.cons (.v 1) (.cons (.app sAdd (.cons (.v 2) (.cons (.c (.int 1)) .nil))) .nil))) .nil)) .nil))))
def c_l_bent (p__law_bent : G.Spec) (p__law_odd_step : G.Spec) (p__law_take : G.Spec) : S := (.seq (c_l_bent_2 p__law_bent p__law_odd_step p__law_take) (.seq (c_l_bent_3 p__law_bent p__law_odd_step p__law_take) (.seq (c_l_bent_4 p__law_bent p__law_odd_step p__law_take) (.seq (c_l_bent_9 p__law_bent p__law_odd_step p__law_take) (c_l_bent_10 p__law_bent p__law_odd_step p__law_take)))))
abbrev s__law_bent : Stmt := top 51
abbrev N__law_bent : List Str := ["_law_draw", "_law_steps", "_law_at", "_law_step_here"]
theorem sc__law_bent : FnScope N__law_bent ["_law_draw", "_law_steps"] (defScope s__law_bent) := ⟨rfl, rfl, rfl, by decide +kernel, rfl, by decide +kernel, by decide +kernel⟩
theorem js__law_bent {P : Program} {w : World} {K : PySem.W.Frag} {mg : Str → Option Value} {base : Heap} {k : Nat} (n_int : mg "int" = none) (n_isinstance : mg "isinstance" = none) (n_len : mg "len" = none) (n_list : mg "list" = none) (n_tuple : mg "tuple" = none) {p__law_bent : G.Spec} {k__law_bent n__law_bent : Nat} (F__law_bent : Fn P w K mg base "_law_bent" k__law_bent n__law_bent p__law_bent) (l__law_bent : k__law_bent ≤ k) {p__law_odd_step : G.Spec} {k__law_odd_step n__law_odd_step : Nat} (F__law_odd_step : Fn P w K mg base "_law_odd_step" k__law_odd_step n__law_odd_step p__law_odd_step) (l__law_odd_step : k__law_odd_step ≤ k) {p__law_take : G.Spec} {k__law_take n__law_take : Nat} (F__law_take : Fn P w K mg base "_law_take" k__law_take n__law_take p__law_take) (l__law_take : k__law_take ≤ k) {f : Addr} {cdv : Value} {A : Around} {outer : List Env} {s : Shared} {H : Hp} {E : XK}
    (C : Ct (cxOf (L2N.CX P w) P w K mg base N__law_bent "_law_bent" (defScope s__law_bent) f cdv A outer s H E) (wxOf E) k) :
    JSs (cxOf (L2N.CX P w) P w K mg base N__law_bent "_law_bent" (defScope s__law_bent) f cdv A outer s H E) (wxOf E) (defBody s__law_bent) (c_l_bent p__law_bent p__law_odd_step p__law_take) :=
  (jss_cons (js_if (jt_eq C.hu (j_len (by rfl) n_len (j_v 1)) j_int) (jss_one (js_ret (j_v 1))) jss_nil)
  (jss_cons (js_set 2 C.hN rfl (by first | exact Or.inl rfl | exact Or.inr rfl) (j_call F__law_take (C.hr.mono l__law_take) C.tk (by rfl) (ja_cons (j_v 0) (ja_cons (j_len (by rfl) n_len (j_v 1)) ja_nil))))
  (jss_cons (js_set 3 C.hN rfl (by first | exact Or.inl rfl | exact Or.inr rfl) (j_ix (j_v 1) (j_v 2)))
  (jss_cons (js_if (jt_w (jw_or (jt_val (j_isi (t := .int) (by rfl) n_isinstance (by rfl) n_int boot_intG (j_v 3))) (jw_or1 (jt_eq C.hu (j_len (by rfl) n_len (j_v 3)) j_int)))) (jss_one (js_if (jt_w (jw_and (jt_not (jt_val (j_isi (t := .int) (by rfl) n_isinstance (by rfl) n_int boot_intG (j_v 3)))) (jw_and (jt_eq C.hu (j_ix (j_v 3) j_int) j_str) (jw_and (jt_not (jt_val (j_isi (t := .int) (by rfl) n_isinstance (by rfl) n_int boot_intG (j_ix (j_v 3) j_int)))) (jw_and1 (jt_gt (j_call F__law_take (C.hr.mono l__law_take) C.tk (by rfl) (ja_cons (j_v 0) (ja_cons j_int ja_nil))) j_int)))))) (jss_one (js_set 3 C.hN rfl (by first | exact Or.inl rfl | exact Or.inr rfl) (j_tup (ja_cons (j_ix (j_v 3) j_int) (ja_cons (j_ix (j_v 3) j_int) (ja_cons (j_tupOf (by rfl) n_tuple (j_call F__law_bent (C.hr.mono l__law_bent) C.tk (by rfl) (ja_cons (j_v 0) (ja_cons (j_ix (j_v 3) j_int) ja_nil)))) ja_nil)))))) (jss_one (js_if (jt_w (jw_or (jt_val (j_isi (t := .int) (by rfl) n_isinstance (by rfl) n_int boot_intG (j_v 3))) (jw_or1 (jt_eq C.hu (j_eq C.hu (j_ix (j_v 3) j_int) j_str) (j_isi (t := .int) (by rfl) n_isinstance (by rfl) n_int boot_intG (j_ix (j_v 3) j_int)))))) (jss_one (js_set 3 C.hN rfl (by first | exact Or.inl rfl | exact Or.inr rfl) (j_call F__law_odd_step (C.hr.mono l__law_odd_step) C.tk (by rfl) (ja_cons (j_v 0) (ja_cons (j_v 3) ja_nil))))) jss_nil)))) jss_nil)
  (jss_one (js_ret (j_add (j_add (j_listOf (by rfl) n_list (j_cutHi (j_v 1) (j_v 2))) (j_list (k := 0) (ja_cons (j_v 3) ja_nil))) (j_listOf (by rfl) n_list (j_cutLo (j_v 1) (j_add (j_v 2) j_int))))))))))
def c_l_fault_1 : S := (.asg (.tup (.cons (.nm 2) (.cons (.nm 3) .nil))) (.app sTup (.cons (.comp true [1] (.nm 1) iSeq (.cons (.app sRevQ (.cons (.v 0) .nil)) .nil) (.c (.bl true)) (.app sTup (.cons (.v 1) (.cons (.c (.int 0)) .nil)))) (.cons (.c (.int 0)) .nil))))
def c_l_fault_2 : S := (.asg (.tup (.cons (.nm 1) (.cons (.nm 4) .nil))) (.app sPop (.cons (.v 2) .nil)))
def c_l_fault_3 : S := (.ret (.app sTup (.cons (.c (.str "TooLong")) (.cons (.c (.int 100)) .nil))))
def c_l_fault_4 : S := (.ite (.app sEq (.cons (.v 3) (.cons (.c (.int 100)) .nil))) (c_l_fault_3) .skip)
def c_l_fault_5 : S := (.ret (.app sTup (.cons (.c (.str "BadStep")) (.cons (.v 3) .nil))))
def c_l_fault_6 : S := (.ite (.or (.app sNe (.cons (.app sLen (.cons (.v 1) .nil)) (.cons (.c (.int 3)) .nil))) (.app sNotIn (.cons (.app sIx (.cons (.v 1) (.cons (.c (.int 0)) .nil))) (.cons (.app sTup (.cons (.c (.str "link")) (.cons (.c (.str "repeat")) .nil))) .nil)))) (c_l_fault_5) .skip)
def c_l_fault_7 : S := (.ret (.app sTup (.cons (.c (.str "BadStep")) (.cons (.v 3) .nil))))
def c_l_fault_8 : S := (.ite (.or (.app sGt (.cons (.v 4) (.cons (.c (.int 0)) .nil))) (.app sNot (.cons (.app (sIsi .int) (.cons (.app sIx (.cons (.v 1) (.cons (.c (.int 2)) .nil))) .nil)) .nil))) (c_l_fault_7) .skip)
def c_l_fault_9 : S := (.ret (.app sTup (.cons (.c (.str "BadStep")) (.cons (.v 3) .nil))))
def c_l_fault_10 : S := (.ite (.or (.app (sIsi .int) (.cons (.app sIx (.cons (.v 1) (.cons (.c (.int 2)) .nil))) .nil)) (.or (.app sGt (.cons (.v 4) (.cons (.c (.int 3)) .nil))) (.app sNot (.cons (.chain sLe sLe (.c (.int 0)) (.app sIx (.cons (.v 1) (.cons (.c (.int 1)) .nil))) (.app sPow (.cons (.c (.int 10)) (.cons (.c (.int 30)) .nil)))) .nil)))) (c_l_fault_9) .skip)
def c_l_fault_11 : S := (.asg (.nm 2) (.app sAddM (.cons (.v 2) (.cons (.comp false [5] (.nm 5) iSeq (.cons (.app sRevQ (.cons (.app sIx (.cons (.v 1) (.cons (.c (.int 2)) .nil))) .nil)) .nil) (.c (.bl true)) (.app sTup (.cons (.v 5) (.cons (.app sAdd (.cons (.v 4) (.cons (.c (.int 1)) .nil))) .nil)))) .nil))))
def c_l_fault_12 : S := (.ite (.app sEq (.cons (.app sIx (.cons (.v 1) (.cons (.c (.int 0)) .nil))) (.cons (.c (.str "link")) .nil))) (c_l_fault_8) (.seq (c_l_fault_10) (c_l_fault_11)))
def c_l_fault_13 : S := (.ite (.app sNot (.cons (.app (sIsi .int) (.cons (.v 1) .nil)) .nil)) (.seq (c_l_fault_6) (c_l_fault_12)) .skip)
def c_l_fault_14 : S := (.asg (.nm 3) (.app sAdd (.cons (.v 3) (.cons (.c (.int 1)) .nil))))
def c_l_fault_15 : S := (.whl (.app sNe (.cons (.v 2) (.cons (.app sList .nil) .nil))) (.seq (c_l_fault_2) (.seq (c_l_fault_4) (.seq (c_l_fault_13) (c_l_fault_14)))))
def c_l_fault_16 : S := (.ret (.app sTup (.cons (.c (.str "")) (.cons (.c .non) .nil))))
def c_l_fault : S := (.seq (c_l_fault_1) (.seq (c_l_fault_15) (c_l_fault_16)))
abbrev s__law_fault : Stmt := top 52
abbrev N__law_fault : List Str := ["_law_history_in", "_law_step_here", "_law_line", "_law_pos", "_law_level", "_law_one"]
theorem sc__law_fault : FnScope N__law_fault ["_law_history_in"] (defScope s__law_fault) := ⟨rfl, rfl, rfl, by decide +kernel, rfl, by decide +kernel, by decide +kernel⟩
theorem js__law_fault {P : Program} {w : World} {K : PySem.W.Frag} {mg : Str → Option Value} {base : Heap} {k : Nat} (n_int : mg "int" = none) (n_isinstance : mg "isinstance" = none) (n_len : mg "len" = none) {f : Addr} {cdv : Value} {A : Around} {outer : List Env} {s : Shared} {H : Hp} {E : XK}
    (C : Ct (cxOf (L2N.CX P w) P w K mg base N__law_fault "_law_fault" (defScope s__law_fault) f cdv A outer s H E) (wxOf E) k) :
    JSs (cxOf (L2N.CX P w) P w K mg base N__law_fault "_law_fault" (defScope s__law_fault) f cdv A outer s H E) (wxOf E) (defBody s__law_fault) (c_l_fault) :=
  (jss_cons (js_par 2 3 rfl C.hN rfl rfl (by decide) rfl rfl (j_comp true (own := [("_law_step_here", 1)]) rfl C.hN (ji_seq (j_revQ (j_v 0))) (blkOk_by (N := N__law_fault) (sc := defScope s__law_fault) (own := [("_law_step_here", 1)]) (by decide +kernel)) (fun _ _ _ _ _ => (jg_nm 1 C.hN rfl (by first | exact Or.inl rfl | exact Or.inr rfl) (by decide))) (fun _ _ _ _ _ => jts_nil) (fun _ _ _ _ _ => (j_tup (ja_cons (j_v 1) (ja_cons j_int ja_nil))))) j_int (by rfl))
  (jss_cons (js_while C.hp (jt_ne C.hu (j_v 2) (j_list (k := 0) ja_nil)) (jss_cons (js_asg (own := [1, 4]) (j_pop (j_v 2)) (jg_tup rfl (jgs_cons (jg_nm 1 C.hN rfl (by first | exact Or.inl rfl | exact Or.inr rfl) (by decide)) (jgs_cons (jg_nm 4 C.hN rfl (by first | exact Or.inl rfl | exact Or.inr rfl) (by decide)) jgs_nil))))
  (jss_cons (js_if (jt_eq C.hu (j_v 3) j_int) (jss_one (js_ret (j_tup (ja_cons j_str (ja_cons j_int ja_nil))))) jss_nil)
  (jss_cons (js_if (jt_not (jt_val (j_isi (t := .int) (by rfl) n_isinstance (by rfl) n_int boot_intG (j_v 1)))) (jss_cons (js_if (jt_w (jw_or (jt_ne C.hu (j_len (by rfl) n_len (j_v 1)) j_int) (jw_or1 (jt_notIn (j_ix (j_v 1) j_int) (j_tup (ja_cons j_str (ja_cons j_str ja_nil))))))) (jss_one (js_ret (j_tup (ja_cons j_str (ja_cons (j_v 3) ja_nil))))) jss_nil)
  (jss_one (js_if (jt_eq C.hu (j_ix (j_v 1) j_int) j_str) (jss_one (js_if (jt_w (jw_or (jt_gt (j_v 4) j_int) (jw_or1 (jt_not (jt_val (j_isi (t := .int) (by rfl) n_isinstance (by rfl) n_int boot_intG (j_ix (j_v 1) j_int))))))) (jss_one (js_ret (j_tup (ja_cons j_str (ja_cons (j_v 3) ja_nil))))) jss_nil)) (jss_cons (js_if (jt_w (jw_or (jt_val (j_isi (t := .int) (by rfl) n_isinstance (by rfl) n_int boot_intG (j_ix (j_v 1) j_int))) (jw_or (jt_gt (j_v 4) j_int) (jw_or1 (jt_not (jt_chLeLe j_int (j_ix (j_v 1) j_int) (j_pow j_int j_int))))))) (jss_one (js_ret (j_tup (ja_cons j_str (ja_cons (j_v 3) ja_nil))))) jss_nil)
  (jss_one (js_set 2 C.hN rfl (by first | exact Or.inl rfl | exact Or.inr rfl) (j_addM (j_v 2) (j_comp false (own := [("_law_one", 5)]) rfl C.hN (ji_seq (j_revQ (j_ix (j_v 1) j_int))) (blkOk_by (N := N__law_fault) (sc := defScope s__law_fault) (own := [("_law_one", 5)]) (by decide +kernel)) (fun _ _ _ _ _ => (jg_nm 5 C.hN rfl (by first | exact Or.inl rfl | exact Or.inr rfl) (by decide))) (fun _ _ _ _ _ => jts_nil) (fun _ _ _ _ _ => (j_tup (ja_cons (j_v 5) (ja_cons (j_add (j_v 4) j_int) ja_nil)))))))))))) jss_nil)
  (jss_one (js_set 3 C.hN rfl (by first | exact Or.inl rfl | exact Or.inr rfl) (j_add (j_v 3) j_int)))))))
  (jss_one (js_ret (j_tup (ja_cons j_str (ja_cons j_non ja_nil)))))))
def c_law_1 (p__law_bent : G.Spec) (p__law_fault : G.Spec) (p__law_rounds : G.Spec) (p__law_same : G.Spec) (p__law_start : G.Spec) (p__law_take : G.Spec) (p_check_history : G.Spec) (p_count_finds : G.Spec) (p_effect_difference : G.Spec) (p_epochs : G.Spec) (p_format_history : G.Spec) (p_found_nodes : G.Spec) (p_run_history : G.Spec) (p_unroll__D : G.Spec) (cl : List (PySem.Str × Nat)) (t0 : LamT) (t1 : LamT) (t2 : LamT) (t3 : LamT) (t4 : LamT) (t5 : LamT) (t6 : LamT) : S := (.asg (.nm 1) (.app p__law_start (.cons (.v 0) .nil)))
def c_law_2 (p__law_bent : G.Spec) (p__law_fault : G.Spec) (p__law_rounds : G.Spec) (p__law_same : G.Spec) (p__law_start : G.Spec) (p__law_take : G.Spec) (p_check_history : G.Spec) (p_count_finds : G.Spec) (p_effect_difference : G.Spec) (p_epochs : G.Spec) (p_format_history : G.Spec) (p_found_nodes : G.Spec) (p_run_history : G.Spec) (p_unroll__D : G.Spec) (cl : List (PySem.Str × Nat)) (t0 : LamT) (t1 : LamT) (t2 : LamT) (t3 : LamT) (t4 : LamT) (t5 : LamT) (t6 : LamT) : S := (.asg (.nm 12) (.app p__law_rounds (.cons (.v 1) (.cons (.c (.int 7)) (.cons (.c (.int 5)) (.cons (.app p__law_take (.cons (.v 1) (.cons (.c (.int 3)) .nil))) .nil))))))
def c_law_3 (p__law_bent : G.Spec) (p__law_fault : G.Spec) (p__law_rounds : G.Spec) (p__law_same : G.Spec) (p__law_start : G.Spec) (p__law_take : G.Spec) (p_check_history : G.Spec) (p_count_finds : G.Spec) (p_effect_difference : G.Spec) (p_epochs : G.Spec) (p_format_history : G.Spec) (p_found_nodes : G.Spec) (p_run_history : G.Spec) (p_unroll__D : G.Spec) (cl : List (PySem.Str × Nat)) (t0 : LamT) (t1 : LamT) (t2 : LamT) (t3 : LamT) (t4 : LamT) (t5 : LamT) (t6 : LamT) : S := (.asg (.tup (.cons (.nm 3) (.cons (.nm 4) .nil))) (.app sTup (.cons (.app p__law_take (.cons (.v 1) (.cons (.app sAdd (.cons (.app sLen (.cons (.v 12) .nil)) (.cons (.c (.int 1)) .nil))) .nil))) (.cons (.app p__law_take (.cons (.v 1) (.cons (.c (.int 6)) .nil))) .nil))))
def c_law_4 (p__law_bent : G.Spec) (p__law_fault : G.Spec) (p__law_rounds : G.Spec) (p__law_same : G.Spec) (p__law_start : G.Spec) (p__law_take : G.Spec) (p_check_history : G.Spec) (p_count_finds : G.Spec) (p_effect_difference : G.Spec) (p_epochs : G.Spec) (p_format_history : G.Spec) (p_found_nodes : G.Spec) (p_run_history : G.Spec) (p_unroll__D : G.Spec) (cl : List (PySem.Str × Nat)) (t0 : LamT) (t1 : LamT) (t2 : LamT) (t3 : LamT) (t4 : LamT) (t5 : LamT) (t6 : LamT) : S := (.asg (.nm 12) (.app sAdd (.cons (.app sAdd (.cons (.app sCutHi (.cons (.v 12) (.cons (.v 3) .nil))) (.cons (.app sList (.cons (.app sTup (.cons (.c (.str "link")) (.cons (.app p__law_take (.cons (.v 1) (.cons (.c (.int 9)) .nil))) (.cons (.app p__law_take (.cons (.v 1) (.cons (.c (.int 9)) .nil))) .nil)))) .nil)) .nil))) (.cons (.app sCutLo (.cons (.v 12) (.cons (.v 3) .nil))) .nil))))
def c_law_5 (p__law_bent : G.Spec) (p__law_fault : G.Spec) (p__law_rounds : G.Spec) (p__law_same : G.Spec) (p__law_start : G.Spec) (p__law_take : G.Spec) (p_check_history : G.Spec) (p_count_finds : G.Spec) (p_effect_difference : G.Spec) (p_epochs : G.Spec) (p_format_history : G.Spec) (p_found_nodes : G.Spec) (p_run_history : G.Spec) (p_unroll__D : G.Spec) (cl : List (PySem.Str × Nat)) (t0 : LamT) (t1 : LamT) (t2 : LamT) (t3 : LamT) (t4 : LamT) (t5 : LamT) (t6 : LamT) : S := (.ite (.app sEq (.cons (.app p__law_take (.cons (.v 1) (.cons (.c (.int 2)) .nil))) (.cons (.c (.int 0)) .nil))) (c_law_4 p__law_bent p__law_fault p__law_rounds p__law_same p__law_start p__law_take p_check_history p_count_finds p_effect_difference p_epochs p_format_history p_found_nodes p_run_history p_unroll__D cl t0 t1 t2 t3 t4 t5 t6) .skip)
def c_law_6 (p__law_bent : G.Spec) (p__law_fault : G.Spec) (p__law_rounds : G.Spec) (p__law_same : G.Spec) (p__law_start : G.Spec) (p__law_take : G.Spec) (p_check_history : G.Spec) (p_count_finds : G.Spec) (p_effect_difference : G.Spec) (p_epochs : G.Spec) (p_format_history : G.Spec) (p_found_nodes : G.Spec) (p_run_history : G.Spec) (p_unroll__D : G.Spec) (cl : List (PySem.Str × Nat)) (t0 : LamT) (t1 : LamT) (t2 : LamT) (t3 : LamT) (t4 : LamT) (t5 : LamT) (t6 : LamT) : S := (.asg (.nm 12) (.app sList (.cons (.c (.int 3)) (.cons (.app sTup (.cons (.c (.str "repeat")) (.cons (.v 5) (.cons (.v 12) .nil)))) .nil))))
def c_law_7 (p__law_bent : G.Spec) (p__law_fault : G.Spec) (p__law_rounds : G.Spec) (p__law_same : G.Spec) (p__law_start : G.Spec) (p__law_take : G.Spec) (p_check_history : G.Spec) (p_count_finds : G.Spec) (p_effect_difference : G.Spec) (p_epochs : G.Spec) (p_format_history : G.Spec) (p_found_nodes : G.Spec) (p_run_history : G.Spec) (p_unroll__D : G.Spec) (cl : List (PySem.Str × Nat)) (t0 : LamT) (t1 : LamT) (t2 : LamT) (t3 : LamT) (t4 : LamT) (t5 : LamT) (t6 : LamT) : S := (.fr (.nm 5) iRng1 (.cons (.app sAdd (.cons (.c (.int 2)) (.cons (.app p__law_take (.cons (.v 1) (.cons (.c (.int 4)) .nil))) .nil))) .nil) (c_law_6 p__law_bent p__law_fault p__law_rounds p__law_same p__law_start p__law_take p_check_history p_count_finds p_effect_difference p_epochs p_format_history p_found_nodes p_run_history p_unroll__D cl t0 t1 t2 t3 t4 t5 t6))
def c_law_8 (p__law_bent : G.Spec) (p__law_fault : G.Spec) (p__law_rounds : G.Spec) (p__law_same : G.Spec) (p__law_start : G.Spec) (p__law_take : G.Spec) (p_check_history : G.Spec) (p_count_finds : G.Spec) (p_effect_difference : G.Spec) (p_epochs : G.Spec) (p_format_history : G.Spec) (p_found_nodes : G.Spec) (p_run_history : G.Spec) (p_unroll__D : G.Spec) (cl : List (PySem.Str × Nat)) (t0 : LamT) (t1 : LamT) (t2 : LamT) (t3 : LamT) (t4 : LamT) (t5 : LamT) (t6 : LamT) : S := (.ite (.app sEq (.cons (.v 4) (.cons (.c (.int 0)) .nil))) (c_law_7 p__law_bent p__law_fault p__law_rounds p__law_same p__law_start p__law_take p_check_history p_count_finds p_effect_difference p_epochs p_format_history p_found_nodes p_run_history p_unroll__D cl t0 t1 t2 t3 t4 t5 t6) .skip)
def c_law_9 (p__law_bent : G.Spec) (p__law_fault : G.Spec) (p__law_rounds : G.Spec) (p__law_same : G.Spec) (p__law_start : G.Spec) (p__law_take : G.Spec) (p_check_history : G.Spec) (p_count_finds : G.Spec) (p_effect_difference : G.Spec) (p_epochs : G.Spec) (p_format_history : G.Spec) (p_found_nodes : G.Spec) (p_run_history : G.Spec) (p_unroll__D : G.Spec) (cl : List (PySem.Str × Nat)) (t0 : LamT) (t1 : LamT) (t2 : LamT) (t3 : LamT) (t4 : LamT) (t5 : LamT) (t6 : LamT) : S := (.asg (.nm 12) (.app sAdd (.cons (.v 12) (.cons (.app sRep (.cons (.app sList (.cons (.app p__law_take (.cons (.v 1) (.cons (.c (.int 9)) .nil))) .nil)) (.cons (.app sAdd (.cons (.c (.int 95)) (.cons (.app p__law_take (.cons (.v 1) (.cons (.c (.int 8)) .nil))) .nil))) .nil))) .nil))))
def c_law_10 (p__law_bent : G.Spec) (p__law_fault : G.Spec) (p__law_rounds : G.Spec) (p__law_same : G.Spec) (p__law_start : G.Spec) (p__law_take : G.Spec) (p_check_history : G.Spec) (p_count_finds : G.Spec) (p_effect_difference : G.Spec) (p_epochs : G.Spec) (p_format_history : G.Spec) (p_found_nodes : G.Spec) (p_run_history : G.Spec) (p_unroll__D : G.Spec) (cl : List (PySem.Str × Nat)) (t0 : LamT) (t1 : LamT) (t2 : LamT) (t3 : LamT) (t4 : LamT) (t5 : LamT) (t6 : LamT) : S := (.ite (.app sEq (.cons (.v 4) (.cons (.c (.int 1)) .nil))) (c_law_9 p__law_bent p__law_fault p__law_rounds p__law_same p__law_start p__law_take p_check_history p_count_finds p_effect_difference p_epochs p_format_history p_found_nodes p_run_history p_unroll__D cl t0 t1 t2 t3 t4 t5 t6) .skip)
def c_law_11 (p__law_bent : G.Spec) (p__law_fault : G.Spec) (p__law_rounds : G.Spec) (p__law_same : G.Spec) (p__law_start : G.Spec) (p__law_take : G.Spec) (p_check_history : G.Spec) (p_count_finds : G.Spec) (p_effect_difference : G.Spec) (p_epochs : G.Spec) (p_format_history : G.Spec) (p_found_nodes : G.Spec) (p_run_history : G.Spec) (p_unroll__D : G.Spec) (cl : List (PySem.Str × Nat)) (t0 : LamT) (t1 : LamT) (t2 : LamT) (t3 : LamT) (t4 : LamT) (t5 : LamT) (t6 : LamT) : S := (.asg (.nm 12) (.app p__law_bent (.cons (.v 1) (.cons (.v 12) .nil))))
def c_law_12 (p__law_bent : G.Spec) (p__law_fault : G.Spec) (p__law_rounds : G.Spec) (p__law_same : G.Spec) (p__law_start : G.Spec) (p__law_take : G.Spec) (p_check_history : G.Spec) (p_count_finds : G.Spec) (p_effect_difference : G.Spec) (p_epochs : G.Spec) (p_format_history : G.Spec) (p_found_nodes : G.Spec) (p_run_history : G.Spec) (p_unroll__D : G.Spec) (cl : List (PySem.Str × Nat)) (t0 : LamT) (t1 : LamT) (t2 : LamT) (t3 : LamT) (t4 : LamT) (t5 : LamT) (t6 : LamT) : S := (.fr (.nm 6) iRng1 (.cons (.app p__law_take (.cons (.v 1) (.cons (.c (.int 3)) .nil))) .nil) (c_law_11 p__law_bent p__law_fault p__law_rounds p__law_same p__law_start p__law_take p_check_history p_count_finds p_effect_difference p_epochs p_format_history p_found_nodes p_run_history p_unroll__D cl t0 t1 t2 t3 t4 t5 t6))
def c_law_13 (p__law_bent : G.Spec) (p__law_fault : G.Spec) (p__law_rounds : G.Spec) (p__law_same : G.Spec) (p__law_start : G.Spec) (p__law_take : G.Spec) (p_check_history : G.Spec) (p_count_finds : G.Spec) (p_effect_difference : G.Spec) (p_epochs : G.Spec) (p_format_history : G.Spec) (p_found_nodes : G.Spec) (p_run_history : G.Spec) (p_unroll__D : G.Spec) (cl : List (PySem.Str × Nat)) (t0 : LamT) (t1 : LamT) (t2 : LamT) (t3 : LamT) (t4 : LamT) (t5 : LamT) (t6 : LamT) : S := (.asg (.tup (.cons (.nm 7) (.cons (.nm 8) .nil))) (.app sTup (.cons (.app sRepr (.cons (.v 12) .nil)) (.cons (.app p__law_fault (.cons (.v 12) .nil)) .nil))))
def c_law_14 (p__law_bent : G.Spec) (p__law_fault : G.Spec) (p__law_rounds : G.Spec) (p__law_same : G.Spec) (p__law_start : G.Spec) (p__law_take : G.Spec) (p_check_history : G.Spec) (p_count_finds : G.Spec) (p_effect_difference : G.Spec) (p_epochs : G.Spec) (p_format_history : G.Spec) (p_found_nodes : G.Spec) (p_run_history : G.Spec) (p_unroll__D : G.Spec) (cl : List (PySem.Str × Nat)) (t0 : LamT) (t1 : LamT) (t2 : LamT) (t3 : LamT) (t4 : LamT) (t5 : LamT) (t6 : LamT) : S := (.ret (.c (.bl false)))
def c_law_15 (p__law_bent : G.Spec) (p__law_fault : G.Spec) (p__law_rounds : G.Spec) (p__law_same : G.Spec) (p__law_start : G.Spec) (p__law_take : G.Spec) (p_check_history : G.Spec) (p_count_finds : G.Spec) (p_effect_difference : G.Spec) (p_epochs : G.Spec) (p_format_history : G.Spec) (p_found_nodes : G.Spec) (p_run_history : G.Spec) (p_unroll__D : G.Spec) (cl : List (PySem.Str × Nat)) (t0 : LamT) (t1 : LamT) (t2 : LamT) (t3 : LamT) (t4 : LamT) (t5 : LamT) (t6 : LamT) : S := (.ite (.or (.app sNot (.cons (.app p__law_same (.cons (.out false (.app p_check_history (.cons (.v 12) .nil))) (.cons (.app sAdd (.cons (.app sTup (.cons (.c .non) .nil)) (.cons (.v 8) .nil))) .nil))) .nil)) (.app sNe (.cons (.app sRepr (.cons (.v 12) .nil)) (.cons (.v 7) .nil)))) (c_law_14 p__law_bent p__law_fault p__law_rounds p__law_same p__law_start p__law_take p_check_history p_count_finds p_effect_difference p_epochs p_format_history p_found_nodes p_run_history p_unroll__D cl t0 t1 t2 t3 t4 t5 t6) .skip)
def c_law_16 (p__law_bent : G.Spec) (p__law_fault : G.Spec) (p__law_rounds : G.Spec) (p__law_same : G.Spec) (p__law_start : G.Spec) (p__law_take : G.Spec) (p_check_history : G.Spec) (p_count_finds : G.Spec) (p_effect_difference : G.Spec) (p_epochs : G.Spec) (p_format_history : G.Spec) (p_found_nodes : G.Spec) (p_run_history : G.Spec) (p_unroll__D : G.Spec) (cl : List (PySem.Str × Nat)) (t0 : LamT) (t1 : LamT) (t2 : LamT) (t3 : LamT) (t4 : LamT) (t5 : LamT) (t6 : LamT) : S := (.ret (.c (.bl false)))
def c_law_17 (p__law_bent : G.Spec) (p__law_fault : G.Spec) (p__law_rounds : G.Spec) (p__law_same : G.Spec) (p__law_start : G.Spec) (p__law_take : G.Spec) (p_check_history : G.Spec) (p_count_finds : G.Spec) (p_effect_difference : G.Spec) (p_epochs : G.Spec) (p_format_history : G.Spec) (p_found_nodes : G.Spec) (p_run_history : G.Spec) (p_unroll__D : G.Spec) (cl : List (PySem.Str × Nat)) (t0 : LamT) (t1 : LamT) (t2 : LamT) (t3 : LamT) (t4 : LamT) (t5 : LamT) (t6 : LamT) : S := (.ite (.app sNot (.cons (.app p__law_same (.cons (.out true (.appk 0 1 [0] p_check_history .nil (.cons (.app sTupOf (.cons (.v 12) .nil)) .nil))) (.cons (.v 8) .nil))) .nil)) (c_law_16 p__law_bent p__law_fault p__law_rounds p__law_same p__law_start p__law_take p_check_history p_count_finds p_effect_difference p_epochs p_format_history p_found_nodes p_run_history p_unroll__D cl t0 t1 t2 t3 t4 t5 t6) .skip)
def c_law_18 (p__law_bent : G.Spec) (p__law_fault : G.Spec) (p__law_rounds : G.Spec) (p__law_same : G.Spec) (p__law_start : G.Spec) (p__law_take : G.Spec) (p_check_history : G.Spec) (p_count_finds : G.Spec) (p_effect_difference : G.Spec) (p_epochs : G.Spec) (p_format_history : G.Spec) (p_found_nodes : G.Spec) (p_run_history : G.Spec) (p_unroll__D : G.Spec) (cl : List (PySem.Str × Nat)) (t0 : LamT) (t1 : LamT) (t2 : LamT) (t3 : LamT) (t4 : LamT) (t5 : LamT) (t6 : LamT) : S := (.asg (.nm 9) (.app sListM (.cons (.c (.clo 0 t0 cl)) (.cons (.c (.clo 1 t1 cl)) (.cons (.c (.clo 2 t2 cl)) .nil)))))
def c_law_19 (p__law_bent : G.Spec) (p__law_fault : G.Spec) (p__law_rounds : G.Spec) (p__law_same : G.Spec) (p__law_start : G.Spec) (p__law_take : G.Spec) (p_check_history : G.Spec) (p_count_finds : G.Spec) (p_effect_difference : G.Spec) (p_epochs : G.Spec) (p_format_history : G.Spec) (p_found_nodes : G.Spec) (p_run_history : G.Spec) (p_unroll__D : G.Spec) (cl : List (PySem.Str × Nat)) (t0 : LamT) (t1 : LamT) (t2 : LamT) (t3 : LamT) (t4 : LamT) (t5 : LamT) (t6 : LamT) : S := (.asg (.nm 9) (.app sAddM (.cons (.v 9) (.cons (.app sList (.cons (.c (.clo 3 t3 cl)) (.cons (.c (.clo 4 t4 cl)) (.cons (.c (.clo 5 t5 cl)) .nil)))) .nil))))
def c_law_20 (p__law_bent : G.Spec) (p__law_fault : G.Spec) (p__law_rounds : G.Spec) (p__law_same : G.Spec) (p__law_start : G.Spec) (p__law_take : G.Spec) (p_check_history : G.Spec) (p_count_finds : G.Spec) (p_effect_difference : G.Spec) (p_epochs : G.Spec) (p_format_history : G.Spec) (p_found_nodes : G.Spec) (p_run_history : G.Spec) (p_unroll__D : G.Spec) (cl : List (PySem.Str × Nat)) (t0 : LamT) (t1 : LamT) (t2 : LamT) (t3 : LamT) (t4 : LamT) (t5 : LamT) (t6 : LamT) : S := (.exp (.meth chkL sAppend (.v 9) (.cons (.c (.clo 6 t6 cl)) .nil)))
def c_law_21 (p__law_bent : G.Spec) (p__law_fault : G.Spec) (p__law_rounds : G.Spec) (p__law_same : G.Spec) (p__law_start : G.Spec) (p__law_take : G.Spec) (p_check_history : G.Spec) (p_count_finds : G.Spec) (p_effect_difference : G.Spec) (p_epochs : G.Spec) (p_format_history : G.Spec) (p_found_nodes : G.Spec) (p_run_history : G.Spec) (p_unroll__D : G.Spec) (cl : List (PySem.Str × Nat)) (t0 : LamT) (t1 : LamT) (t2 : LamT) (t3 : LamT) (t4 : LamT) (t5 : LamT) (t6 : LamT) : S := (.ret (.c (.bl false)))
def c_law_22 (p__law_bent : G.Spec) (p__law_fault : G.Spec) (p__law_rounds : G.Spec) (p__law_same : G.Spec) (p__law_start : G.Spec) (p__law_take : G.Spec) (p_check_history : G.Spec) (p_count_finds : G.Spec) (p_effect_difference : G.Spec) (p_epochs : G.Spec) (p_format_history : G.Spec) (p_found_nodes : G.Spec) (p_run_history : G.Spec) (p_unroll__D : G.Spec) (cl : List (PySem.Str × Nat)) (t0 : LamT) (t1 : LamT) (t2 : LamT) (t3 : LamT) (t4 : LamT) (t5 : LamT) (t6 : LamT) : S := (.ite (.and (.app sNe (.cons (.app sIx (.cons (.v 8) (.cons (.c (.int 0)) .nil))) (.cons (.c (.str "")) .nil))) (.app sNe (.cons (.comp false [14] (.nm 14) iSeq (.cons (.v 9) .nil) (.c (.bl true)) (.outv true cl (.v 14) (.cons t0 (.app p_count_finds (.cons (.v 12) .nil)) (.cons t1 (.app p_found_nodes (.cons (.v 12) .nil)) (.cons t2 (.app p_epochs (.cons (.v 12) .nil)) (.cons t3 (.app p_unroll__D (.cons (.v 12) .nil)) (.cons t4 (.app p_run_history (.cons (.app sTup (.cons (.c (.int 0)) .nil)) (.cons (.v 12) .nil))) (.cons t5 (.app p_format_history (.cons (.v 12) .nil)) (.cons t6 (.app p_effect_difference (.cons (.v 12) (.cons (.app sList .nil) (.cons (.c (.int 3)) .nil)))) .nil))))))))) (.cons (.app sRep (.cons (.app sList (.cons (.v 8) .nil)) (.cons (.c (.int 7)) .nil))) .nil)))) (c_law_21 p__law_bent p__law_fault p__law_rounds p__law_same p__law_start p__law_take p_check_history p_count_finds p_effect_difference p_epochs p_format_history p_found_nodes p_run_history p_unroll__D cl t0 t1 t2 t3 t4 t5 t6) .skip)
def c_law_23 (p__law_bent : G.Spec) (p__law_fault : G.Spec) (p__law_rounds : G.Spec) (p__law_same : G.Spec) (p__law_start : G.Spec) (p__law_take : G.Spec) (p_check_history : G.Spec) (p_count_finds : G.Spec) (p_effect_difference : G.Spec) (p_epochs : G.Spec) (p_format_history : G.Spec) (p_found_nodes : G.Spec) (p_run_history : G.Spec) (p_unroll__D : G.Spec) (cl : List (PySem.Str × Nat)) (t0 : LamT) (t1 : LamT) (t2 : LamT) (t3 : LamT) (t4 : LamT) (t5 : LamT) (t6 : LamT) : S := (.fr (.nm 2) iRng1 (.cons (.c (.int 5)) .nil) (.seq (c_law_2 p__law_bent p__law_fault p__law_rounds p__law_same p__law_start p__law_take p_check_history p_count_finds p_effect_difference p_epochs p_format_history p_found_nodes p_run_history p_unroll__D cl t0 t1 t2 t3 t4 t5 t6) (.seq (c_law_3 p__law_bent p__law_fault p__law_rounds p__law_same p__law_start p__law_take p_check_history p_count_finds p_effect_difference p_epochs p_format_history p_found_nodes p_run_history p_unroll__D cl t0 t1 t2 t3 t4 t5 t6) (.seq (c_law_5 p__law_bent p__law_fault p__law_rounds p__law_same p__law_start p__law_take p_check_history p_count_finds p_effect_difference p_epochs p_format_history p_found_nodes p_run_history p_unroll__D cl t0 t1 t2 t3 t4 t5 t6) (.seq (c_law_8 p__law_bent p__law_fault p__law_rounds p__law_same p__law_start p__law_take p_check_history p_count_finds p_effect_difference p_epochs p_format_history p_found_nodes p_run_history p_unroll__D cl t0 t1 t2 t3 t4 t5 t6) (.seq (c_law_10 p__law_bent p__law_fault p__law_rounds p__law_same p__law_start p__law_take p_check_history p_count_finds p_effect_difference p_epochs p_format_history p_found_nodes p_run_history p_unroll__D cl t0 t1 t2 t3 t4 t5 t6) (.seq (c_law_12 p__law_bent p__law_fault p__law_rounds p__law_same p__law_start p__law_take p_check_history p_count_finds p_effect_difference p_epochs p_format_history p_found_nodes p_run_history p_unroll__D cl t0 t1 t2 t3 t4 t5 t6) (.seq (c_law_13 p__law_bent p__law_fault p__law_rounds p__law_same p__law_start p__law_take p_check_history p_count_finds p_effect_difference p_epochs p_format_history p_found_nodes p_run_history p_unroll__D cl t0 t1 t2 t3 t4 t5 t6) (.seq (c_law_15 p__law_bent p__law_fault p__law_rounds p__law_same p__law_start p__law_take p_check_history p_count_finds p_effect_difference p_epochs p_format_history p_found_nodes p_run_history p_unroll__D cl t0 t1 t2 t3 t4 t5 t6) (.seq (c_law_17 p__law_bent p__law_fault p__law_rounds p__law_same p__law_start p__law_take p_check_history p_count_finds p_effect_difference p_epochs p_format_history p_found_nodes p_run_history p_unroll__D cl t0 t1 t2 t3 t4 t5 t6) (.seq (c_law_18 p__law_bent p__law_fault p__law_rounds p__law_same p__law_start p__law_take p_check_history p_count_finds p_effect_difference p_epochs p_format_history p_found_nodes p_run_history p_unroll__D cl t0 t1 t2 t3 t4 t5 t6) (.seq (c_law_19 p__law_bent p__law_fault p__law_rounds p__law_same p__law_start p__law_take p_check_history p_count_finds p_effect_difference p_epochs p_format_history p_found_nodes p_run_history p_unroll__D cl t0 t1 t2 t3 t4 t5 t6) (.seq (c_law_20 p__law_bent p__law_fault p__law_rounds p__law_same p__law_start p__law_take p_check_history p_count_finds p_effect_difference p_epochs p_format_history p_found_nodes p_run_history p_unroll__D cl t0 t1 t2 t3 t4 t5 t6) (c_law_22 p__law_bent p__law_fault p__law_rounds p__law_same p__law_start p__law_take p_check_history p_count_finds p_effect_difference p_epochs p_format_history p_found_nodes p_run_history p_unroll__D cl t0 t1 t2 t3 t4 t5 t6))))))))))))))
def c_law_24 (p__law_bent : G.Spec) (p__law_fault : G.Spec) (p__law_rounds : G.Spec) (p__law_same : G.Spec) (p__law_start : G.Spec) (p__law_take : G.Spec) (p_check_history : G.Spec) (p_count_finds : G.Spec) (p_effect_difference : G.Spec) (p_epochs : G.Spec) (p_format_history : G.Spec) (p_found_nodes : G.Spec) (p_run_history : G.Spec) (p_unroll__D : G.Spec) (cl : List (PySem.Str × Nat)) (t0 : LamT) (t1 : LamT) (t2 : LamT) (t3 : LamT) (t4 : LamT) (t5 : LamT) (t6 : LamT) : S := (.asg (.nm 10) (.app sList (.cons (.app sRep (.cons (.app sList (.cons (.c (.int 1)) .nil)) (.cons (.c (.int 100)) .nil))) (.cons (.app sRep (.cons (.app sList (.cons (.c (.int 1)) .nil)) (.cons (.c (.int 101)) .nil))) (.cons (.app sList (.cons (.app sTup (.cons (.c (.str "repeat")) (.cons (.c (.int 1)) (.cons (.app sTup (.cons (.app sTup (.cons (.c (.str "repeat")) (.cons (.c (.int 1)) (.cons (.app sTup (.cons (.app sTup (.cons (.c (.str "repeat")) (.cons (.c (.int 1)) (.cons (.app sTup (.cons (.app sTup (.cons (.c (.str "repeat")) (.cons (.c (.int 1)) (.cons (.app sTup .nil) .nil)))) .nil)) .nil)))) .nil)) .nil)))) .nil)) .nil)))) .nil)) .nil)))))
def c_law_25 (p__law_bent : G.Spec) (p__law_fault : G.Spec) (p__law_rounds : G.Spec) (p__law_same : G.Spec) (p__law_start : G.Spec) (p__law_take : G.Spec) (p_check_history : G.Spec) (p_count_finds : G.Spec) (p_effect_difference : G.Spec) (p_epochs : G.Spec) (p_format_history : G.Spec) (p_found_nodes : G.Spec) (p_run_history : G.Spec) (p_unroll__D : G.Spec) (cl : List (PySem.Str × Nat)) (t0 : LamT) (t1 : LamT) (t2 : LamT) (t3 : LamT) (t4 : LamT) (t5 : LamT) (t6 : LamT) : S := (.asg (.nm 11) (.comp false [13] (.nm 13) iSeq (.cons (.v 10) .nil) (.c (.bl true)) (.out true (.app p_check_history (.cons (.v 13) .nil)))))
def c_law_26 (p__law_bent : G.Spec) (p__law_fault : G.Spec) (p__law_rounds : G.Spec) (p__law_same : G.Spec) (p__law_start : G.Spec) (p__law_take : G.Spec) (p_check_history : G.Spec) (p_count_finds : G.Spec) (p_effect_difference : G.Spec) (p_epochs : G.Spec) (p_format_history : G.Spec) (p_found_nodes : G.Spec) (p_run_history : G.Spec) (p_unroll__D : G.Spec) (cl : List (PySem.Str × Nat)) (t0 : LamT) (t1 : LamT) (t2 : LamT) (t3 : LamT) (t4 : LamT) (t5 : LamT) (t6 : LamT) : S := (.ret (.and (.app sEq (.cons (.v 11) (.cons (.app sList (.cons (.app sTup (.cons (.c (.str "")) (.cons (.c .non) .nil))) (.cons (.app sTup (.cons (.c (.str "TooLong")) (.cons (.c (.int 100)) .nil))) (.cons (.app sTup (.cons (.c (.str "")) (.cons (.c .non) .nil))) .nil)))) .nil))) (.app sEq (.cons (.app sList (.cons (.c (.int 100)) (.cons (.c (.int 4)) .nil))) (.cons (.app sList (.cons (.c (.int 100)) (.cons (.c (.int 4)) .nil))) .nil)))))
def c_law (p__law_bent : G.Spec) (p__law_fault : G.Spec) (p__law_rounds : G.Spec) (p__law_same : G.Spec) (p__law_start : G.Spec) (p__law_take : G.Spec) (p_check_history : G.Spec) (p_count_finds : G.Spec) (p_effect_difference : G.Spec) (p_epochs : G.Spec) (p_format_history : G.Spec) (p_found_nodes : G.Spec) (p_run_history : G.Spec) (p_unroll__D : G.Spec) (cl : List (PySem.Str × Nat)) (t0 : LamT) (t1 : LamT) (t2 : LamT) (t3 : LamT) (t4 : LamT) (t5 : LamT) (t6 : LamT) : S := (.seq (c_law_1 p__law_bent p__law_fault p__law_rounds p__law_same p__law_start p__law_take p_check_history p_count_finds p_effect_difference p_epochs p_format_history p_found_nodes p_run_history p_unroll__D cl t0 t1 t2 t3 t4 t5 t6) (.seq (c_law_23 p__law_bent p__law_fault p__law_rounds p__law_same p__law_start p__law_take p_check_history p_count_finds p_effect_difference p_epochs p_format_history p_found_nodes p_run_history p_unroll__D cl t0 t1 t2 t3 t4 t5 t6) (.seq (c_law_24 p__law_bent p__law_fault p__law_rounds p__law_same p__law_start p__law_take p_check_history p_count_finds p_effect_difference p_epochs p_format_history p_found_nodes p_run_history p_unroll__D cl t0 t1 t2 t3 t4 t5 t6) (.seq (c_law_25 p__law_bent p__law_fault p__law_rounds p__law_same p__law_start p__law_take p_check_history p_count_finds p_effect_difference p_epochs p_format_history p_found_nodes p_run_history p_unroll__D cl t0 t1 t2 t3 t4 t5 t6) (c_law_26 p__law_bent p__law_fault p__law_rounds p__law_same p__law_start p__law_take p_check_history p_count_finds p_effect_difference p_epochs p_format_history p_found_nodes p_run_history p_unroll__D cl t0 t1 t2 t3 t4 t5 t6)))))
abbrev s_law : Stmt := top 53
abbrev N_law : List Str := ["_law_script", "_law_draw", "_law_turn", "_law_at", "_law_pick", "_law_k", "_law_step_here", "_law_kept", "_law_due", "_law_asks", "_law_full", "_law_found", "_law_history_in", "_law_one", "_law_ask"]
theorem sc_law : FnScope N_law ["_law_script"] (defScope s_law) := ⟨rfl, rfl, rfl, by decide +kernel, rfl, by decide +kernel, by decide +kernel⟩
theorem js_law {P : Program} {w : World} {K : PySem.W.Frag} {mg : Str → Option Value} {base : Heap} {k : Nat} (n_len : mg "len" = none) (n_range : mg "range" = none) (n_repr : mg "repr" = none) (n_tuple : mg "tuple" = none) (m_MAX_NESTING : ∃ t, mg "MAX_NESTING" = some (.int 4 t)) (m_MAX_STEPS : ∃ t, mg "MAX_STEPS" = some (.int 100 t)) {p__law_bent : G.Spec} {k__law_bent n__law_bent : Nat} (F__law_bent : Fn P w K mg base "_law_bent" k__law_bent n__law_bent p__law_bent) (l__law_bent : k__law_bent ≤ k) {p__law_fault : G.Spec} {k__law_fault n__law_fault : Nat} (F__law_fault : Fn P w K mg base "_law_fault" k__law_fault n__law_fault p__law_fault) (l__law_fault : k__law_fault ≤ k) {p__law_rounds : G.Spec} {k__law_rounds n__law_rounds : Nat} (F__law_rounds : Fn P w K mg base "_law_rounds" k__law_rounds n__law_rounds p__law_rounds) (l__law_rounds : k__law_rounds ≤ k) {p__law_same : G.Spec} {k__law_same n__law_same : Nat} (F__law_same : Fn P w K mg base "_law_same" k__law_same n__law_same p__law_same) (l__law_same : k__law_same ≤ k) {p__law_start : G.Spec} {k__law_start n__law_start : Nat} (F__law_start : Fn P w K mg base "_law_start" k__law_start n__law_start p__law_start) (l__law_start : k__law_start ≤ k) {p__law_take : G.Spec} {k__law_take n__law_take : Nat} (F__law_take : Fn P w K mg base "_law_take" k__law_take n__law_take p__law_take) (l__law_take : k__law_take ≤ k) {p_check_history : G.Spec} {k_check_history n_check_history : Nat} (F_check_history : Fn P w K mg base "check_history" k_check_history n_check_history p_check_history) {p_count_finds : G.Spec} {k_count_finds n_count_finds : Nat} (F_count_finds : Fn P w K mg base "count_finds" k_count_finds n_count_finds p_count_finds) {p_effect_difference : G.Spec} {k_effect_difference n_effect_difference : Nat} (F_effect_difference : Fn P w K mg base "effect_difference" k_effect_difference n_effect_difference p_effect_difference) {p_epochs : G.Spec} {k_epochs n_epochs : Nat} (F_epochs : Fn P w K mg base "epochs" k_epochs n_epochs p_epochs) {p_format_history : G.Spec} {k_format_history n_format_history : Nat} (F_format_history : Fn P w K mg base "format_history" k_format_history n_format_history p_format_history) {p_found_nodes : G.Spec} {k_found_nodes n_found_nodes : Nat} (F_found_nodes : Fn P w K mg base "found_nodes" k_found_nodes n_found_nodes p_found_nodes) {p_run_history : G.Spec} {k_run_history n_run_history : Nat} (F_run_history : Fn P w K mg base "run_history" k_run_history n_run_history p_run_history) {p_unroll__D : G.Spec} {k_unroll__D n_unroll__D : Nat} (F_unroll__D : FnD P w K mg base "unroll" k_unroll__D n_unroll__D p_unroll__D) {j : Nat} {c1 c2 c3 : Value} (ER : Errs K mg c1 c2 c3) (O__law_error : OutOk P w K mg base 4 true c1 c2 c3 "_law_error") (l__law_error : j + 4 ≤ k) (O__law_outcome : OutOk P w K mg base 3 false c1 c2 c3 "_law_outcome") (l__law_outcome : j + 3 ≤ k) (lj_check_history : k_check_history ≤ j) (lj_count_finds : k_count_finds ≤ j) (lj_effect_difference : k_effect_difference ≤ j) (lj_epochs : k_epochs ≤ j) (lj_format_history : k_format_history ≤ j) (lj_found_nodes : k_found_nodes ≤ j) (lj_run_history : k_run_history ≤ j) (lj_unroll__D : k_unroll__D ≤ j) (K_check_history_0_history : FnK P w K mg base "check_history" k_check_history 0 ["history"] [0] p_check_history) {f : Addr} {cdv : Value} (LK : LamK K mg base cdv "law") {A : Around} {outer : List Env} {s : Shared} {H : Hp} {E : XK}
    (GU : A.guards = some []) (C : Ct (cxOf (L2N.CX P w) P w K mg base N_law "law" (defScope s_law) f cdv A outer s H E) (wxOf E) k) :
    ∃ t0 t1 t2 t3 t4 t5 t6 : LamT, JSs (cxOf (L2N.CX P w) P w K mg base N_law "law" (defScope s_law) f cdv A outer s H E) (wxOf E) (defBody s_law) (c_law p__law_bent p__law_fault p__law_rounds p__law_same p__law_start p__law_take p_check_history p_count_finds p_effect_difference p_epochs p_format_history p_found_nodes p_run_history p_unroll__D (cxOf (L2N.CX P w) P w K mg base N_law "law" (defScope s_law) f cdv A outer s H E).env.cells t0 t1 t2 t3 t4 t5 t6) :=
  ⟨⟨("law" : Str) ++ ".<locals>." ++ "<lambda>", _, _, _, []⟩, ⟨("law" : Str) ++ ".<locals>." ++ "<lambda>", _, _, _, [0]⟩, ⟨("law" : Str) ++ ".<locals>." ++ "<lambda>", _, _, _, [0]⟩, ⟨("law" : Str) ++ ".<locals>." ++ "<lambda>", _, _, _, []⟩, ⟨("law" : Str) ++ ".<locals>." ++ "<lambda>", _, _, _, [0]⟩, ⟨("law" : Str) ++ ".<locals>." ++ "<lambda>", _, _, _, [0]⟩, ⟨("law" : Str) ++ ".<locals>." ++ "<lambda>", _, _, _, []⟩, (jss_cons (js_set 1 C.hN rfl (by first | exact Or.inl rfl | exact Or.inr rfl) (j_call F__law_start (C.hr.mono l__law_start) C.tk (by rfl) (ja_cons (j_v 0) ja_nil)))
  (jss_cons (js_for (own := [2]) C.hp rfl (ji_rng1 (by rfl) n_range j_int) (jg_nm 2 C.hN rfl (by first | exact Or.inl rfl | exact Or.inr rfl) (by decide)) (jss_cons (js_set 12 C.hN rfl (by first | exact Or.inl rfl | exact Or.inr rfl) (j_call F__law_rounds (C.hr.mono l__law_rounds) C.tk (by rfl) (ja_cons (j_v 1) (ja_cons j_int (ja_cons j_int (ja_cons (j_call F__law_take (C.hr.mono l__law_take) C.tk (by rfl) (ja_cons (j_v 1) (ja_cons j_int ja_nil))) ja_nil))))))
  (jss_cons (js_par 3 4 rfl C.hN rfl rfl (by decide) rfl rfl (j_call F__law_take (C.hr.mono l__law_take) C.tk (by rfl) (ja_cons (j_v 1) (ja_cons (j_add (j_len (by rfl) n_len (j_v 12)) j_int) ja_nil))) (j_call F__law_take (C.hr.mono l__law_take) C.tk (by rfl) (ja_cons (j_v 1) (ja_cons j_int ja_nil))) (by rfl))
  (jss_cons (js_if (jt_eq C.hu (j_call F__law_take (C.hr.mono l__law_take) C.tk (by rfl) (ja_cons (j_v 1) (ja_cons j_int ja_nil))) j_int) (jss_one (js_set 12 C.hN rfl (by first | exact Or.inl rfl | exact Or.inr rfl) (j_add (j_add (j_cutHi (j_v 12) (j_v 3)) (j_list (k := 0) (ja_cons (j_tup (ja_cons j_str (ja_cons (j_call F__law_take (C.hr.mono l__law_take) C.tk (by rfl) (ja_cons (j_v 1) (ja_cons j_int ja_nil))) (ja_cons (j_call F__law_take (C.hr.mono l__law_take) C.tk (by rfl) (ja_cons (j_v 1) (ja_cons j_int ja_nil))) ja_nil)))) ja_nil))) (j_cutLo (j_v 12) (j_v 3))))) jss_nil)
  (jss_cons (js_if (jt_eq C.hu (j_v 4) j_int) (jss_one (js_for (own := [5]) C.hp rfl (ji_rng1 (by rfl) n_range (j_add j_int (j_call F__law_take (C.hr.mono l__law_take) C.tk (by rfl) (ja_cons (j_v 1) (ja_cons j_int ja_nil))))) (jg_nm 5 C.hN rfl (by first | exact Or.inl rfl | exact Or.inr rfl) (by decide)) (jss_one (js_set 12 C.hN rfl (by first | exact Or.inl rfl | exact Or.inr rfl) (j_list (k := 0) (ja_cons j_int (ja_cons (j_tup (ja_cons j_str (ja_cons (j_v 5) (ja_cons (j_v 12) ja_nil)))) ja_nil))))))) jss_nil)
  (jss_cons (js_if (jt_eq C.hu (j_v 4) j_int) (jss_one (js_set 12 C.hN rfl (by first | exact Or.inl rfl | exact Or.inr rfl) (j_add (j_v 12) (j_rep (j_list (k := 0) (ja_cons (j_call F__law_take (C.hr.mono l__law_take) C.tk (by rfl) (ja_cons (j_v 1) (ja_cons j_int ja_nil))) ja_nil)) (j_add j_int (j_call F__law_take (C.hr.mono l__law_take) C.tk (by rfl) (ja_cons (j_v 1) (ja_cons j_int ja_nil)))))))) jss_nil)
  (jss_cons (js_for (own := [6]) C.hp rfl (ji_rng1 (by rfl) n_range (j_call F__law_take (C.hr.mono l__law_take) C.tk (by rfl) (ja_cons (j_v 1) (ja_cons j_int ja_nil)))) (jg_nm 6 C.hN rfl (by first | exact Or.inl rfl | exact Or.inr rfl) (by decide)) (jss_one (js_set 12 C.hN rfl (by first | exact Or.inl rfl | exact Or.inr rfl) (j_call F__law_bent (C.hr.mono l__law_bent) C.tk (by rfl) (ja_cons (j_v 1) (ja_cons (j_v 12) ja_nil))))))
  (jss_cons (js_par 7 8 rfl C.hN rfl rfl (by decide) rfl rfl (j_repr GU C.hu66 (by rfl) n_repr (j_v 12)) (j_call F__law_fault (C.hr.mono l__law_fault) C.tk (by rfl) (ja_cons (j_v 12) ja_nil)) (by rfl))
  (jss_cons (js_if (jt_w (jw_or (jt_not (jt_val (j_call F__law_same (C.hr.mono l__law_same) C.tk (by rfl) (ja_cons (j_out (t := ⟨("law" : Str) ++ ".<locals>." ++ "<lambda>", _, _, _, []⟩) (j := j) O__law_outcome ER (LK.c rfl) (lamN_by (by kernel_rfl)) (.inl ⟨rfl, fun _ _ _ _ => rfl⟩) C.hN (C.hr.mono l__law_outcome) C.tk (by rfl) (.inl ⟨rfl, rfl⟩) (fun _ _ _ _ _ _ _ C => (j_call F_check_history (C.hr.mono lj_check_history) C.tk (by rfl) (ja_cons (j_v 12) ja_nil)))) (ja_cons (j_add (j_tup (ja_cons j_non ja_nil)) (j_v 8)) ja_nil))))) (jw_or1 (jt_ne C.hu (j_repr GU C.hu66 (by rfl) n_repr (j_v 12)) (j_v 7))))) (jss_one (js_ret j_bl)) jss_nil)
  (jss_cons (js_if (jt_not (jt_val (j_call F__law_same (C.hr.mono l__law_same) C.tk (by rfl) (ja_cons (j_out (t := ⟨("law" : Str) ++ ".<locals>." ++ "<lambda>", _, _, _, []⟩) (j := j) O__law_error ER (LK.c rfl) (lamN_by (by kernel_rfl)) (.inl ⟨rfl, fun _ _ _ _ => rfl⟩) C.hN (C.hr.mono l__law_error) C.tk (by rfl) (.inl ⟨rfl, rfl⟩) (fun _ _ _ _ _ _ _ C => (j_callk0 K_check_history_0_history (C.hr.mono lj_check_history) C.tk (by rfl) (jk_cons (by exact (j_tupOf (by rfl) n_tuple (j_v 12))) jk_nil)))) (ja_cons (j_v 8) ja_nil))))) (jss_one (js_ret j_bl)) jss_nil)
  (jss_cons (js_set 9 C.hN rfl (by first | exact Or.inl rfl | exact Or.inr rfl) (j_listM (ja_cons (j_lam (t := ⟨("law" : Str) ++ ".<locals>." ++ "<lambda>", _, _, _, []⟩) 0 (LK.c rfl) (fun ok => LamN.has (lamN_by (by kernel_rfl)) ok) (.inl ⟨rfl, rfl⟩)) (ja_cons (j_lam (t := ⟨("law" : Str) ++ ".<locals>." ++ "<lambda>", _, _, _, [0]⟩) 1 (LK.c rfl) (fun ok => LamN.has (lamN_by (by kernel_rfl)) ok) (.inr ⟨0, _, _, rfl, rfl⟩)) (ja_cons (j_lam (t := ⟨("law" : Str) ++ ".<locals>." ++ "<lambda>", _, _, _, [0]⟩) 2 (LK.c rfl) (fun ok => LamN.has (lamN_by (by kernel_rfl)) ok) (.inr ⟨0, _, _, rfl, rfl⟩)) ja_nil)))))
  (jss_cons (js_set 9 C.hN rfl (by first | exact Or.inl rfl | exact Or.inr rfl) (j_addM (j_v 9) (j_list (k := 0) (ja_cons (j_lam (t := ⟨("law" : Str) ++ ".<locals>." ++ "<lambda>", _, _, _, []⟩) 3 (LK.c rfl) (fun ok => LamN.has (lamN_by (by kernel_rfl)) ok) (.inl ⟨rfl, rfl⟩)) (ja_cons (j_lam (t := ⟨("law" : Str) ++ ".<locals>." ++ "<lambda>", _, _, _, [0]⟩) 4 (LK.c rfl) (fun ok => LamN.has (lamN_by (by kernel_rfl)) ok) (.inr ⟨0, _, _, rfl, rfl⟩)) (ja_cons (j_lam (t := ⟨("law" : Str) ++ ".<locals>." ++ "<lambda>", _, _, _, [0]⟩) 5 (LK.c rfl) (fun ok => LamN.has (lamN_by (by kernel_rfl)) ok) (.inr ⟨0, _, _, rfl, rfl⟩)) ja_nil))))))
  (jss_cons (js_exp (j_append (j_v 9) (j_lam (t := ⟨("law" : Str) ++ ".<locals>." ++ "<lambda>", _, _, _, []⟩) 6 (LK.c rfl) (fun ok => LamN.has (lamN_by (by kernel_rfl)) ok) (.inl ⟨rfl, rfl⟩))))
  (jss_one (js_if (jt_w (jw_and (jt_ne C.hu (j_ix (j_v 8) j_int) j_str) (jw_and1 (jt_ne C.hu (j_asks (i := 14) (j := j) O__law_error ER ⟨⟨lamN_by (by kernel_rfl), (.inl ⟨rfl, fun _ _ _ _ => rfl⟩), rfl, fun _ _ _ _ _ _ _ C => (j_call F_count_finds (C.hr.mono lj_count_finds) C.tk (by rfl) (ja_cons (j_v 12) ja_nil))⟩, ⟨⟨lamN_by (by kernel_rfl), (.inr ⟨0, "_law_a", rfl, rfl, fun _ _ _ _ _ => ⟨_, rfl, fun _ => rfl⟩⟩), rfl, fun _ _ _ _ _ _ _ C => (j_call F_found_nodes (C.hr.mono lj_found_nodes) C.tk (by rfl) (ja_cons (j_v 12) ja_nil))⟩, ⟨⟨lamN_by (by kernel_rfl), (.inr ⟨0, "_law_b", rfl, rfl, fun _ _ _ _ _ => ⟨_, rfl, fun _ => rfl⟩⟩), rfl, fun _ _ _ _ _ _ _ C => (j_call F_epochs (C.hr.mono lj_epochs) C.tk (by rfl) (ja_cons (j_v 12) ja_nil))⟩, ⟨⟨lamN_by (by kernel_rfl), (.inl ⟨rfl, fun _ _ _ _ => rfl⟩), rfl, fun _ _ _ _ _ _ _ C => (j_callD F_unroll__D (C.hr.mono lj_unroll__D) C.tk (by rfl) (ja_cons (j_v 12) ja_nil))⟩, ⟨⟨lamN_by (by kernel_rfl), (.inr ⟨0, "_law_a", rfl, rfl, fun _ _ _ _ _ => ⟨_, rfl, fun _ => rfl⟩⟩), rfl, fun _ _ _ _ _ _ _ C => (j_call F_run_history (C.hr.mono lj_run_history) C.tk (by rfl) (ja_cons (j_tup (ja_cons j_int ja_nil)) (ja_cons (j_v 12) ja_nil)))⟩, ⟨⟨lamN_by (by kernel_rfl), (.inr ⟨0, "_law_b", rfl, rfl, fun _ _ _ _ _ => ⟨_, rfl, fun _ => rfl⟩⟩), rfl, fun _ _ _ _ _ _ _ C => (j_call F_format_history (C.hr.mono lj_format_history) C.tk (by rfl) (ja_cons (j_v 12) ja_nil))⟩, ⟨⟨lamN_by (by kernel_rfl), (.inl ⟨rfl, fun _ _ _ _ => rfl⟩), rfl, fun _ _ _ _ _ _ _ C => (j_call F_effect_difference (C.hr.mono lj_effect_difference) C.tk (by rfl) (ja_cons (j_v 12) (ja_cons (j_list (k := 0) ja_nil) (ja_cons j_int ja_nil))))⟩, trivial⟩⟩⟩⟩⟩⟩⟩ (C.hr.mono l__law_error) C.hc C.hN rfl (nvis (by kernel_rfl)) (ji_seq (j_v 9)) (blkOk_by (N := N_law) (sc := defScope s_law) (own := [("_law_ask", 14)]) (by decide +kernel)) (fun _ _ _ _ _ => (jg_nm 14 C.hN rfl (by first | exact Or.inl rfl | exact Or.inr rfl) (by decide))) (fun _ _ _ => by rfl) (fun _ _ _ => .inl rfl)) (j_rep (j_list (k := 0) (ja_cons (j_v 8) ja_nil)) j_int))))) (jss_one (js_ret j_bl)) jss_nil)))))))))))))))
  (jss_cons (js_set 10 C.hN rfl (by first | exact Or.inl rfl | exact Or.inr rfl) (j_list (k := 0) (ja_cons (j_rep (j_list (k := 0) (ja_cons j_int ja_nil)) j_int) (ja_cons (j_rep (j_list (k := 0) (ja_cons j_int ja_nil)) j_int) (ja_cons (j_list (k := 0) (ja_cons (j_tup (ja_cons j_str (ja_cons j_int (ja_cons (j_tup (ja_cons (j_tup (ja_cons j_str (ja_cons j_int (ja_cons (j_tup (ja_cons (j_tup (ja_cons j_str (ja_cons j_int (ja_cons (j_tup (ja_cons (j_tup (ja_cons j_str (ja_cons j_int (ja_cons (j_tup ja_nil) ja_nil)))) ja_nil)) ja_nil)))) ja_nil)) ja_nil)))) ja_nil)) ja_nil)))) ja_nil)) ja_nil)))))
  (jss_cons (js_setc 11 false (own := [("_law_one", 13)]) rfl C.hN rfl rfl (sw_true rfl rfl rfl (by decide +kernel)) (ji_seq (j_v 10)) (blkOk_by (N := N_law) (sc := defScope s_law) (own := [("_law_one", 13)]) (by decide +kernel)) (fun _ _ _ _ _ => (jg_nm 13 C.hN rfl (by first | exact Or.inl rfl | exact Or.inr rfl) (by decide))) (fun _ _ _ _ _ => jts_nil) (fun _ _ _ _ _ => (j_out (t := ⟨("law" : Str) ++ ".<locals>." ++ "<lambda>", _, _, _, []⟩) (j := j) O__law_error ER (LK.c rfl) (lamN_by (by kernel_rfl)) (.inl ⟨rfl, fun _ _ _ _ => rfl⟩) C.hN (C.hr.mono l__law_error) takesN (by rfl) (.inl ⟨rfl, rfl⟩) (fun _ _ _ _ _ _ _ C => (j_call F_check_history (C.hr.mono lj_check_history) C.tk (by rfl) (ja_cons (j_v 13) ja_nil))))))
  (jss_one (js_ret (je_and (j_eq C.hu (j_v 11) (j_list (k := 0) (ja_cons (j_tup (ja_cons j_str (ja_cons j_non ja_nil))) (ja_cons (j_tup (ja_cons j_str (ja_cons j_int ja_nil))) (ja_cons (j_tup (ja_cons j_str (ja_cons j_non ja_nil))) ja_nil))))) (je_one (j_eq C.hu (j_list (k := 0) (ja_cons (j_gint (by rfl) m_MAX_STEPS) (ja_cons (j_gint (by rfl) m_MAX_NESTING) ja_nil))) (j_list (k := 0) (ja_cons j_int (ja_cons j_int ja_nil))))))))))))⟩
end K11

/-! GEq: the weakest preconditions one step at a time. -/
namespace G
theorem wpE_v {i : Nat} {σ : Sl} {cs : Cs} {Q : KD} {X : KX} : wpE (.v i) σ cs Q X = match getV σ i with
    | some d => Q d cs
    | none => False := by first | (rw [wpE]; cases getV σ i <;> rfl) | rw [wpE]
theorem wpE_c {d : D} {σ : Sl} {cs : Cs} {Q : KD} {X : KX} : wpE (.c d) σ cs Q X = Q d cs := by rw [wpE]
theorem wpE_app {sp : Spec} {as : Es} {σ : Sl} {cs : Cs} {Q : KD} {X : KX} : wpE (.app sp as) σ cs Q X = wpEs as σ cs (fun ds cs' => sp ds cs' Q X) X := by rw [wpE]
theorem wpE_ite {c a b : E} {σ : Sl} {cs : Cs} {Q : KD} {X : KX} : wpE (.ite c a b) σ cs Q X = wpE c σ cs (fun d cs' => match d with
    | .bl k => if k = true then wpE a σ cs' Q X else wpE b σ cs' Q X
    | _ => False) X := by first | (rw [wpE]; congr 1) | rw [wpE]
theorem wpE_comp {m : Bool} {own : List Nat} {p : Pat} {it : ISpec} {as : Es} {c e : E} {σ : Sl} {cs : Cs} {Q : KD} {X : KX} : wpE (.comp m own p it as c e) σ cs Q X = wpEs as σ cs (fun ds c1 => it ds c1 fun items grd =>
      compL p grd (wipe σ own) (fun σ1 c2 K => wpE c σ1 c2 K (fun _ _ => False)) (fun σ1 c2 K => wpE e σ1 c2 K (fun _ _ => False))
        (fun ys c3 => if m = true then ∀ n, c3 n = none → Q (.ref n) (put c3 n (.lst ys)) else Q (.lst ys) c3) items [] c1) X := by rw [wpE]
theorem wpEs_nil {σ : Sl} {cs : Cs} {Q : List D → Cs → Prop} {X : KX} : wpEs .nil σ cs Q X = Q [] cs := by rw [wpEs]
theorem wpEs_cons {e : E} {es : Es} {σ : Sl} {cs : Cs} {Q : List D → Cs → Prop} {X : KX} : wpEs (.cons e es) σ cs Q X = wpE e σ cs (fun d c1 => wpEs es σ c1 (fun ds c2 => Q (d :: ds) c2) X) X := by rw [wpEs]
/-- a condition that is known -/
theorem wpE_ifb {c a b : E} {σ : Sl} {cs : Cs} {Q : KD} {X : KX} (k : Bool) (hc : ∀ Q : KD, Q (.bl k) cs → wpE c σ cs Q X) (ha : k = true → wpE a σ cs Q X) (hb : k = false → wpE b σ cs Q X) : wpE (.ite c a b) σ cs Q X := by
  rw [wpE_ite]
  refine hc _ ?_
  cases k with
  | true => exact ha rfl
  | false => exact hb rfl
end G

/-! GEv: expressions with one value that change nothing. -/
namespace G
def Ev (e : E) (σ : Sl) (cs : Cs) (d : D) : Prop := ∀ (Q : KD) (X : KX), Q d cs → wpE e σ cs Q X
def Evs (es : Es) (σ : Sl) (cs : Cs) (ds : List D) : Prop := ∀ (Q : List D → Cs → Prop) (X : KX), Q ds cs → wpEs es σ cs Q X
/-- an operation with one answer -/
def SpD (sp : Spec) (ds : List D) (cs : Cs) (d : D) : Prop := ∀ (Q : KD) (X : KX), Q d cs → sp ds cs Q X
section
variable {σ : Sl} {cs : Cs} {d d' : D} {ds : List D} {a b c e : E} {es : Es} {sp s1 s2 : Spec} {k k' : Bool}
theorem Ev.var {i : Nat} (h : getV σ i = some d) : Ev (.v i) σ cs d := fun Q X hQ => by rw [wpE_v, h]; exact hQ
theorem Ev.con : Ev (.c d) σ cs d := fun Q X hQ => by rw [wpE_c]; exact hQ
theorem Evs.nil : Evs .nil σ cs [] := fun Q X hQ => by rw [wpEs_nil]; exact hQ
theorem Evs.cons (h : Ev e σ cs d) (hs : Evs es σ cs ds) : Evs (.cons e es) σ cs (d :: ds) := fun Q X hQ => by rw [wpEs_cons]; exact h _ _ (hs _ _ hQ)
theorem Evs.one (h : Ev e σ cs d) : Evs (.cons e .nil) σ cs [d] := .cons h .nil
theorem Evs.two (h : Ev a σ cs d) (h' : Ev b σ cs d') : Evs (.cons a (.cons b .nil)) σ cs [d, d'] := .cons h (.one h')
theorem Evs.three {d2 : D} (h : Ev a σ cs d) (h' : Ev b σ cs d') (h2 : Ev c σ cs d2) : Evs (.cons a (.cons b (.cons c .nil))) σ cs [d, d', d2] := .cons h (.two h' h2)
theorem Ev.app (h : Evs es σ cs ds) (hs : SpD sp ds cs d) : Ev (.app sp es) σ cs d := fun Q X hQ => by rw [wpE_app]; exact h _ _ (hs _ _ hQ)
theorem wpE_or {Q : KD} {X : KX} : wpE (.or a b) σ cs Q X = wpE a σ cs (fun d cs' => match d with
    | .bl k => if k = true then Q (.bl true) cs' else wpE b σ cs' Q X
    | _ => False) X := by first | (rw [wpE]; congr 1) | rw [wpE]
theorem wpE_and {Q : KD} {X : KX} : wpE (.and a b) σ cs Q X = wpE a σ cs (fun d cs' => match d with
    | .bl k => if k = true then wpE b σ cs' Q X else Q (.bl false) cs'
    | _ => False) X := by first | (rw [wpE]; congr 1) | rw [wpE]
theorem Ev.or_t (h : Ev a σ cs (.bl true)) : Ev (.or a b) σ cs (.bl true) := fun Q X hQ => by rw [wpE_or]; exact h _ _ hQ
theorem Ev.or_f (h : Ev a σ cs (.bl false)) (hb : Ev b σ cs (.bl k)) : Ev (.or a b) σ cs (.bl k) := fun Q X hQ => by rw [wpE_or]; exact h _ _ (hb _ _ hQ)
theorem Ev.and_f (h : Ev a σ cs (.bl false)) : Ev (.and a b) σ cs (.bl false) := fun Q X hQ => by rw [wpE_and]; exact h _ _ hQ
theorem Ev.and_t (h : Ev a σ cs (.bl true)) (hb : Ev b σ cs (.bl k)) : Ev (.and a b) σ cs (.bl k) := fun Q X hQ => by rw [wpE_and]; exact h _ _ (hb _ _ hQ)
/-- `or` and `and` of any two -/
theorem Ev.or (h : Ev a σ cs (.bl k)) (hb : k = false → Ev b σ cs (.bl k')) : Ev (.or a b) σ cs (.bl (k || k')) := by
  cases k with
  | true => exact .or_t h
  | false => exact .or_f h (hb rfl)
theorem Ev.and (h : Ev a σ cs (.bl k)) (hb : k = true → Ev b σ cs (.bl k')) : Ev (.and a b) σ cs (.bl (k && k')) := by
  cases k with
  | true => exact .and_t h (hb rfl)
  | false => exact .and_f h
theorem Ev.chain {x y z : D} (ha : Ev a σ cs x) (hb : Ev b σ cs y) (h1 : SpD s1 [x, y] cs (.bl k)) (hc : k = true → Ev c σ cs z ∧ SpD s2 [y, z] cs (.bl k')) : Ev (.chain s1 s2 a b c) σ cs (.bl (k && k')) := fun Q X hQ => by
  simp only [wpE]
  refine ha _ _ (hb _ _ (h1 _ _ ?_))
  cases k with
  | true => exact (hc rfl).1 _ _ ((hc rfl).2 _ _ hQ)
  | false => exact hQ
theorem Ev.not (h : Ev a σ cs (.bl k)) : Ev (.app sNot (.cons a .nil)) σ cs (.bl (!k)) := .app (.one h) fun Q X hQ => hQ
/-- statements -/
theorem wpS_if {s t : S} {K : Ends} (h : Ev c σ cs (.bl k)) (ht : k = true → wpS s σ cs K) (hf : k = false → wpS t σ cs K) : wpS (.ite c s t) σ cs K := by
  rw [wpS]
  refine h _ _ ?_
  cases k with
  | true => exact ht rfl
  | false => exact hf rfl
theorem wpS_iff {s t : S} {K : Ends} (h : Ev c σ cs (.bl false)) (hf : wpS t σ cs K) : wpS (.ite c s t) σ cs K := wpS_if h (fun z => by cases z) fun _ => hf
theorem wpS_ift {s t : S} {K : Ends} (h : Ev c σ cs (.bl true)) (hf : wpS s σ cs K) : wpS (.ite c s t) σ cs K := wpS_if h (fun _ => hf) fun z => by cases z
theorem wpS_seq {s t : S} {K : Ends} (h : wpS s σ cs { nx := fun σ' cs' => wpS t σ' cs' K, bk := K.bk, ct := K.ct, rt := K.rt, ex := K.ex }) : wpS (.seq s t) σ cs K := by rw [wpS]; exact h
def bindK (p : Pat) (σ : Sl) (K : Ends) : KD := fun d cs' => match bindP p [d] σ with
  | some σ' => K.nx σ' cs'
  | none => False
theorem wpS_asgE {p : Pat} {K : Ends} : wpS (.asg p e) σ cs K = wpE e σ cs (bindK p σ K) fun x cs' => K.ex x σ cs' := by simp only [wpS]; rfl
theorem bindK_of {p : Pat} {K : Ends} {σ' : Sl} (hp : bindP p [d] σ = some σ') (hK : K.nx σ' cs) : bindK p σ K d cs := by
  unfold bindK
  rw [hp]
  exact hK
theorem wpS_fr {p : Pat} {it : ISpec} {as : Es} {s : S} {K : Ends} : wpS (.fr p it as s) σ cs K = wpEs as σ cs (fun ds c1 => it ds c1 fun items grd => forL p grd (wpS s) K items σ c1) fun x cs' => K.ex x σ cs' := by simp only [wpS]
/-- a loop over what one value names -/
theorem wpS_for {p : Pat} {it : ISpec} {as : Es} {s : S} {K : Ends} (h : Evs as σ cs ds) (hi : it ds cs fun items grd => forL p grd (wpS s) K items σ cs) : wpS (.fr p it as s) σ cs K := by
  rw [wpS_fr]
  exact h _ _ hi
theorem wpS_skip {K : Ends} (h : K.nx σ cs) : wpS .skip σ cs K := by rw [wpS]; exact h
theorem wpS_asg {p : Pat} {K : Ends} {σ' : Sl} (h : Ev e σ cs d) (hp : bindP p [d] σ = some σ') (hK : K.nx σ' cs) : wpS (.asg p e) σ cs K := by
  rw [wpS]
  refine h _ _ ?_
  rw [hp]
  exact hK
theorem wpS_ret {K : Ends} (h : Ev e σ cs d) (hK : K.rt d cs) : wpS (.ret e) σ cs K := by
  rw [wpS]
  exact h _ _ hK
end
end G

/-! GCount: counting rows of parents; how many trees complete a known part. Plain mathematics. -/
namespace G
/-! ### sums over a range -/
def sm (n : Nat) (f : Nat → Nat) : Nat := ((List.range n).map f).sum
/-! ### rows of parents -/
def tupN (N : Nat) : Nat → List (List Nat)
  | 0 => [[]]
  | j + 1 => (tupN N j).flatMap fun r => (List.range N).map fun i => r ++ [i]
theorem tupN_row {N : Nat} : ∀ j, ∀ r ∈ tupN N j, r.length = j ∧ ∀ i ∈ r, i < N
  | 0, r, h => by
    have : r = [] := by simpa [tupN] using h
    subst this
    exact ⟨rfl, fun i hi => by cases hi⟩
  | j + 1, r, h => by
    unfold tupN at h
    obtain ⟨q, hq, h⟩ := List.mem_flatMap.mp h
    obtain ⟨i, hi, rfl⟩ := List.mem_map.mp h
    obtain ⟨a, b⟩ := tupN_row j q hq
    refine ⟨by simp [a], fun x hx => ?_⟩
    rcases List.mem_append.mp hx with hx | hx
    · exact b x hx
    · have : x = i := by simpa using hx
      rw [this]
      exact List.mem_range.mp hi
theorem tupN_one {N : Nat} : ∀ (j : Nat) (p : List Nat), p.length = j → (∀ i ∈ p, i < N) → (tupN N j).countP (fun q => decide (q = p)) = 1
  | 0, p, e, _ => by
    have : p = [] := List.length_eq_zero_iff.mp e
    subst this
    rfl
  | j + 1, p, e, h => by
    have ne : p ≠ [] := fun z => by rw [z] at e; cases e
    have ep := List.dropLast_concat_getLast ne
    generalize p.getLast ne = x at ep
    generalize hq : p.dropLast = q at ep
    subst ep
    have lq : q.length = j := by simpa using e
    have ih := tupN_one j q lq fun i hi => h i (List.mem_append_left _ hi)
    have hx : x < N := h x (by simp)
    rw [tupN, List.countP_flatMap]
    have : (List.countP (fun z => decide (z = q ++ [x])) ∘ fun r => (List.range N).map fun i => r ++ [i]) = fun r => if r = q then 1 else 0 := by
      funext r
      show List.countP _ ((List.range N).map _) = _
      rw [List.countP_map]
      by_cases er : r = q
      · rw [if_pos er]
        have : ((fun z => decide (z = q ++ [x])) ∘ fun i => r ++ [i]) = fun i => decide (i ∈ [x]) && true := by
          funext i
          simp [er]
        rw [this, countP_sub (List.nodup_cons.mpr ⟨by simp, List.nodup_nil⟩) (fun j hj => by simp at hj; omega)]
        rfl
      · rw [if_neg er, List.countP_eq_zero]
        intro i _ z
        simp at z
        exact er z.1
    rw [this]
    have z : ∀ l : List (List Nat), (l.map fun r => if r = q then 1 else 0).sum = l.countP fun r => decide (r = q) := by
      intro l
      induction l with
      | nil => rfl
      | cons a l il =>
        rw [List.map_cons, List.sum_cons, il, List.countP_cons]
        by_cases e : a = q <;> simp [e]
        omega
    rw [z, ih]
theorem par_at {p : List Nat} {i : Nat} (h : i < p.length) : par p i = p[i] := by
  unfold par
  simp [List.getD, List.getElem?_eq_getElem h]
/-- how many rows -/
noncomputable def cp (n : Nat) (P : List Nat → Prop) : Nat := (tupN n n).countP fun p => @decide (P p) (Classical.propDecidable _)
def Row (n : Nat) (p : List Nat) : Prop := p.length = n ∧ ∀ i, i < n → par p i < n
theorem tup_Row {n : Nat} {p : List Nat} (h : p ∈ tupN n n) : Row n p := by
  obtain ⟨a, b⟩ := tupN_row n p h
  refine ⟨a, fun i hi => ?_⟩
  rw [par_at (by omega)]
  exact b _ (List.getElem_mem _)
section
variable {n : Nat} {P Q : List Nat → Prop}
theorem cp_one {q : List Nat} (hq : Row n q) (h : ∀ p, Row n p → (P p ↔ p = q)) : cp n P = 1 := by
  have e : cp n P = (tupN n n).countP fun p => decide (p = q) := by
    unfold cp
    refine List.countP_congr fun p hp => ?_
    have := h p (tup_Row hp)
    simp [this]
  rw [e]
  refine tupN_one n q hq.1 fun i hi => ?_
  obtain ⟨k, hk, rfl⟩ := List.mem_iff_getElem.mp hi
  rw [← par_at hk]
  exact hq.2 k (by rw [← hq.1]; exact hk)
end
end G

/-! GCount2: known parts of trees, their completions; Cayley's number with many roots. Plain mathematics. -/
namespace G
def cn (n : Nat) (P : Nat → Bool) : Nat := (List.range n).countP P
theorem cn_succ {n : Nat} {P : Nat → Bool} : cn (n + 1) P = cn n P + if P n = true then 1 else 0 := by
  unfold cn
  rw [List.range_succ, List.countP_append]
  simp
theorem cn_le {n : Nat} {P : Nat → Bool} : cn n P ≤ n := by
  have := List.countP_le_length (p := P) (l := List.range n)
  rwa [List.length_range] at this
theorem cn_add {P : Nat → Bool} {x : Nat} : ∀ {n : Nat}, P x = false → cn n (fun j => P j || decide (j = x)) = cn n P + if x < n then 1 else 0
  | 0, _ => by simp [cn]
  | n + 1, h => by
    rw [cn_succ, cn_succ, cn_add h]
    by_cases e : n = x
    · subst e
      simp [h]
    · by_cases l : x < n
      · rw [if_pos l, if_pos (by omega : x < n + 1)]
        simp [e]
        omega
      · have e2 : ¬ x < n + 1 := by omega
        simp [e, l, e2]
theorem cn_full {P : Nat → Bool} {n : Nat} (h : cn n P = n) : ∀ i, i < n → P i = true := by
  intro i hi
  cases e : P i with
  | true => rfl
  | false =>
    have := cn_add (n := n) e
    rw [if_pos hi, h] at this
    have l := cn_le (n := n) (P := fun j => P j || decide (j = i))
    omega
theorem cn_mono {P Q : Nat → Bool} : ∀ {n : Nat}, (∀ i, i < n → P i = true → Q i = true) → cn n P ≤ cn n Q
  | 0, _ => Nat.le_refl _
  | n + 1, h => by
    rw [cn_succ, cn_succ]
    have := cn_mono (n := n) fun i hi => h i (by omega)
    have z := h n (by omega)
    cases e : P n with
    | false => simp; omega
    | true => rw [z e]; simp; omega
theorem cn_lt {P Q : Nat → Bool} {n x : Nat} (h : ∀ i, i < n → P i = true → Q i = true) (hx : x < n) (a : P x = false) (b : Q x = true) : cn n P < cn n Q := by
  have := cn_add (n := n) a
  rw [if_pos hx] at this
  have l : cn n (fun j => P j || decide (j = x)) ≤ cn n Q := cn_mono fun i hi e => by
    rcases Bool.or_eq_true _ _ ▸ e with e | e
    · exact h i hi e
    · rw [of_decide_eq_true e]; exact b
  omega
theorem fo_of_rank {n : Nat} {p : List Nat} (hl : p.length = n) (rk : Nat → Nat) (h : ∀ i, i < n → par p i < n ∧ (par p i = i ∨ rk (par p i) < rk i)) : FoOk p := by
  refine ⟨fun i => cn n fun j => decide (rk j < rk i), fun i hi => ?_⟩
  rw [hl] at hi ⊢
  obtain ⟨a, b⟩ := h i hi
  refine ⟨a, ?_, b.imp id fun b => ?_⟩
  · have := cn_lt (n := n) (P := fun j => decide (rk j < rk i)) (Q := fun _ => true) (fun _ _ _ => rfl) hi (by simp) rfl
    have l := cn_le (n := n) (P := fun _ => true)
    show cn n _ < n
    omega
  · refine cn_lt (fun j _ e => ?_) a (by simp) (by simpa using b)
    have := of_decide_eq_true e
    exact decide_eq_true (by omega)
/-! ### trees with one root -/
structure Good (n r : Nat) (p : List Nat) : Prop where
  row : Row n p
  fo : FoOk p
  rt : ∀ i, i < n → (par p i = i ↔ i = r)
/-- a known part -/
structure Sta (n r : Nat) (F : Nat → Bool) (q : Nat → Nat) : Prop where
  rn : r < n
  fr : F r = true
  qr : q r = r
  ok : ∃ rk : Nat → Nat, ∀ i, i < n → F i = true → i ≠ r → q i < n ∧ F (q i) = true ∧ rk (q i) < rk i
def adF (F : Nat → Bool) (x : Nat) : Nat → Bool := fun j => F j || decide (j = x)
def adQ (q : Nat → Nat) (x t : Nat) : Nat → Nat := fun j => if j = x then t else q j
def Co (n r : Nat) (F : Nat → Bool) (q : Nat → Nat) (p : List Nat) : Prop := Good n r p ∧ ∀ i, i < n → F i = true → par p i = q i
section
variable {n r : Nat} {F : Nat → Bool} {q : Nat → Nat} {p : List Nat}
theorem Sta.add (h : Sta n r F q) {x t : Nat} (hx : x < n) (fx : F x = false) (ht : t < n) (ft : F t = true) : Sta n r (adF F x) (adQ q x t) := by
  obtain ⟨rk, hk⟩ := h.ok
  have rx : r ≠ x := fun z => by rw [← z, h.fr] at fx; cases fx
  refine ⟨h.rn, by simp [adF, h.fr], by simp [adQ, rx, h.qr], fun j => if j = x then rk t + 1 else rk j, fun i hi fi ne => ?_⟩
  have tx : t ≠ x := fun z => by rw [← z, ft] at fx; cases fx
  by_cases e : i = x
  · subst e
    refine ⟨by simp [adQ, ht], by simp [adF, adQ, ft], ?_⟩
    simp [adQ, tx]
  · have fi' : F i = true := by simpa [adF, e] using fi
    obtain ⟨a, b, c⟩ := hk i hi fi' ne
    have qx : q i ≠ x := fun z => by rw [← z, b] at fx; cases fx
    refine ⟨by simpa [adQ, e] using a, by simp [adF, adQ, e, b], ?_⟩
    simpa [adQ, e, qx] using c
/-! ### chains, the top first -/
def adFr (F : Nat → Bool) : List Nat → Nat → Bool
  | [] => F
  | u :: l => adFr (adF F u) l
def adQs (q : Nat → Nat) (t : Nat) : List Nat → Nat → Nat
  | [] => q
  | u :: l => adQs (adQ q u t) u l
/-- a chain that is not known -/
structure ChOk (n : Nat) (F : Nat → Bool) (l : List Nat) : Prop where
  nd : l.Nodup
  lt : ∀ x ∈ l, x < n
  nf : ∀ x ∈ l, F x = false
theorem ChOk.tail {u : Nat} {l : List Nat} (h : ChOk n F (u :: l)) : ChOk n (adF F u) l := by
  have nd := List.nodup_cons.mp h.nd
  refine ⟨nd.2, fun x hx => h.lt x (List.mem_cons_of_mem _ hx), fun x hx => ?_⟩
  have e : x ≠ u := fun z => nd.1 (z ▸ hx)
  simp [adF, e, h.nf x (List.mem_cons_of_mem _ hx)]
theorem Sta.chain : ∀ (l : List Nat) (F : Nat → Bool) (q : Nat → Nat) (t : Nat), Sta n r F q → ChOk n F l → t < n → F t = true → Sta n r (adFr F l) (adQs q t l)
  | [], _, _, _, h, _, _, _ => h
  | u :: l, F, q, t, h, c, ht, ft => Sta.chain l _ _ u (h.add (c.lt u List.mem_cons_self) (c.nf u List.mem_cons_self) ht ft) c.tail (c.lt u List.mem_cons_self) (by simp [adF])
theorem ChOk.cons {u x : Nat} {l : List Nat} (c : ChOk n F (u :: l)) (hx : x < n) (fx : F x = false) (nx : x ∉ u :: l) : ChOk n F (x :: u :: l) := by
  refine ⟨List.nodup_cons.mpr ⟨nx, c.nd⟩, fun y hy => ?_, fun y hy => ?_⟩
  · rcases List.mem_cons.mp hy with e | hy
    · rw [e]; exact hx
    · exact c.lt y hy
  · rcases List.mem_cons.mp hy with e | hy
    · rw [e]; exact fx
    · exact c.nf y hy
/-- all is known -/
theorem known (h : Sta n r F q) (hf : cn n F = n) : cp n (Co n r F q) = 1 := by
  have full := cn_full hf
  obtain ⟨rk, hk⟩ := h.ok
  have pq : ∀ i, i < n → par ((List.range n).map q) i = q i := fun i hi => by
    unfold par
    simp [List.getD, hi]
  have all : ∀ i, i < n → q i < n ∧ (q i = i ∨ rk (q i) < rk i) := fun i hi => by
    by_cases e : i = r
    · subst e
      exact ⟨by rw [h.qr]; exact hi, .inl h.qr⟩
    · obtain ⟨a, _, c⟩ := hk i hi (full i hi) e
      exact ⟨a, .inr c⟩
  have row : Row n ((List.range n).map q) := ⟨by simp, fun i hi => by rw [pq i hi]; exact (all i hi).1⟩
  refine cp_one row fun p hp => ?_
  constructor
  · rintro ⟨_, e⟩
    refine ext_par (by rw [hp.1]; simp) fun i hi => ?_
    rw [hp.1] at hi
    rw [e i hi (full i hi), pq i hi]
  · intro e
    subst e
    refine ⟨⟨row, fo_of_rank row.1 rk fun i hi => by rw [pq i hi]; exact all i hi, fun i hi => ?_⟩, fun i hi _ => pq i hi⟩
    rw [pq i hi]
    constructor
    · intro e
      by_cases z : i = r
      · exact z
      · have := (hk i hi (full i hi) z).2.2
        rw [e] at this
        omega
    · intro e
      rw [e]; exact h.qr
/-! ### Cayley's number -/
def cay (n f : Nat) : Nat := if f < n then f * n ^ (n - f - 1) else 1
end
end G

/-! GCount3: how many trees with a given root give the costs of first finds: by exposing paths. Plain mathematics. -/
namespace G
/-- nodes of a path that are deep and not marked -/
def uc (p : List Nat) (M : Nat → Bool) (v : Nat) : Nat := (path p v).countP fun j => !M j && deep p j
def ncost (p : List Nat) (M : Nat → Bool) (v : Nat) : Nat := uc p M v + nroot p v
/-- the costs of first finds -/
def fa (p : List Nat) : (Nat → Bool) → List (Nat × Nat) → Prop
  | _, [] => True
  | M, (v, c) :: L => ncost p M v = c ∧ fa p (more p M v) L
def mF (r : Nat) (F : Nat → Bool) : Nat → Bool := fun j => F j && decide (j ≠ r)
section
variable {n r : Nat} {F : Nat → Bool} {q : Nat → Nat} {p : List Nat}
theorem Good.root (h : Good n r p) : ∀ i, i < n → root p i = r := fun i hi => by
  have a := root_lt h.fo i (by rw [h.row.1]; exact hi)
  rw [h.row.1] at a
  exact (h.rt _ a.1).mp a.2
theorem Good.lt (h : Good n r p) {i : Nat} (hi : i < n) : i < p.length := by rw [h.row.1]; exact hi
end
/-! ### the number by exposing paths -/
def Pk : List Nat → List Bool → (List Bool → Nat) → Nat
  | c :: cs, b :: E, ψ => (if c = 1 ∧ b = false then ψ (true :: E) else 0) + Pk cs E fun E' => ψ (b :: E')
  | _, _, _ => 0
def pkN (cs : List Nat) : Nat → Nat → List Bool → (Nat → List Bool → Nat) → Nat
  | 0, fr, E, ψ => ψ fr E
  | k + 1, fr, E, ψ => fr * pkN cs k (fr - 1) E ψ + Pk cs E fun E' => pkN cs k fr E' ψ
def hN (n : Nat) : List Nat → Nat → Nat → List Bool → Nat
  | [], f, _, _ => cay n f
  | c :: cs, f, fr, E => match E with
    | [] => 0
    | b :: E => if c ≤ 1 then (if b = true then hN n cs f fr E else hN n cs (f + 1) fr E) else if b = true then 0 else
      (f - 1) * pkN cs (c - 2) fr E (fun fr' E' => hN n cs (f + c - 1) fr' E') + pkN cs (c - 1) fr E fun fr' E' => hN n cs (f + c) fr' E'
/-- a node with a greater cost is marked too early -/
def Bad : List Nat → List Bool → Prop
  | c :: cs, b :: E => (2 ≤ c ∧ b = true) ∨ Bad cs E
  | _, _ => False
end G

/-! GCount4: the number of trees with a given root that give the costs of first finds. Plain mathematics. -/
namespace G
structure LOk (n r : Nat) (L : List (Nat × Nat)) : Prop where
  nd : (L.map (·.1)).Nodup
  lt : ∀ x ∈ L, x.1 < n
  nr : ∀ x ∈ L, x.1 ≠ r
  pos : ∀ x ∈ L, 0 < x.2
theorem LOk.tail {n r : Nat} {x : Nat × Nat} {L : List (Nat × Nat)} (h : LOk n r (x :: L)) : LOk n r L :=
  ⟨(List.nodup_cons.mp h.nd).2, fun y hy => h.lt y (List.mem_cons_of_mem _ hy), fun y hy => h.nr y (List.mem_cons_of_mem _ hy), fun y hy => h.pos y (List.mem_cons_of_mem _ hy)⟩
def plain (F : Nat → Bool) (L : List (Nat × Nat)) : Nat → Bool := fun x => !F x && !decide (x ∈ L.map (·.1))
section
variable {n r : Nat} {F : Nat → Bool} {q : Nat → Nat}
end
end G

/-! GDict2: dict(pairs), dict(d), sorted(d), in, dict displays, equal dicts. -/
namespace G
open PySem PySem.Spec L2
open Evl (Ex)
theorem CallR.or {X : Cx} {f : Value} {r r' : List V → Hp → VK → Prop} (h : CallR X f r) (h' : CallR X f r') : CallR X f (fun xs H Q => r xs H Q ∨ r' xs H Q) := by
  intro pins s σ H xs us Q I rx q
  rcases q with q | q
  · exact h pins s σ H xs us Q I rx q
  · exact h' pins s σ H xs us Q I rx q
section
variable {X : Cx} {W : WX} {pos apos p : Pos} {o a e : Expr} {co ca ce : E}
theorem DicR.mem {K : PySem.W.Frag} {wd : Wd} : ∀ {l : DL} {kvs : List (Key × V)}, DicR K wd l kvs → ∀ q ∈ kvs, ∃ p ∈ l, p.1 = q.1 ∧ Rp K wd p.2 q.2
  | [], [], _, q, h => by cases h
  | p :: l, r :: kvs, d, q, h => by
    obtain ⟨a, b, c⟩ := d.cons_inv
    rcases List.mem_cons.mp h with e | h
    · subst e
      exact ⟨p, List.mem_cons_self, a, b⟩
    · obtain ⟨p', h1, h2⟩ := DicR.mem c q h
      exact ⟨p', List.mem_cons_of_mem _ h1, h2⟩
  | [], _ :: _, d, _, _ => by have := d.ks; simp at this
  | _ :: _, [], d, _, _ => by have := d.ks; simp at this
end
section
variable {P : Program} {w : World} {K : PySem.W.Frag} {mg : Str → Option Value} {base : Heap} {x qual : Str} {params : Arguments} {body : List Stmt} {scope : Scope} {f : Addr} {fd : FuncData} {ps : List Str} {k n : Nat} {sp spF : Spec}
end
end G

/-! GComp2: comprehensions of two clauses. -/
namespace G
open PySem PySem.Spec L2
open Evl (Ex)
section
variable {X : Cx} {W : WX} {pos : Pos} {ce : E}
end
end G

/-! GDT: dicts with tuples as keys; the items of a frozen dict. -/
namespace L2
open PySem PySem.Spec PyProof.Rows
section
variable {X : Cx} {pins : List (Addr × Obj)} {σ : St} {H : Hp} {s : Shared} {d : Addr} {o : Obj}
end
section
variable {P : Program} {w : World} {K : PySem.W.Frag} {d : Addr} {o : Obj} {es : Array DictEntry} {ep : Nat}
end
section
variable {X : Cx} {e : Expr} {td : TE} {apos cpos : Pos}
end
end L2
namespace G
open PySem PySem.Spec L2
open Evl (Ex)
/-! ### the items of a frozen dict -/
section
variable {X : Cx} {W : WX} {e : Expr} {ce : E} {apos cpos : Pos} {elts : List Expr} {kk : Nat} {tpos : Pos}
end
end G

/-! GDT2: cells with tuple keys; sets of ints. -/
namespace G
open PySem PySem.Spec L2
open Evl (Ex)
section
variable {κ : Type} [DecidableEq κ]
def valT (l : List (κ × D)) (k : κ) : Option D := (l.find? fun p => decide (p.1 = k)).map (·.2)
def putT (l : List (κ × D)) (k : κ) (d : D) : List (κ × D) := if (l.any fun p => decide (p.1 = k)) = true then l.map (fun p => if p.1 = k then (p.1, d) else p) else l ++ [(k, d)]
structure MapR (K : PySem.W.Frag) (wd : Wd) (l : List (κ × D)) (kvs : List (κ × V)) : Prop where
  ks : l.map (·.1) = kvs.map (·.1)
  vs : RpL K wd (l.map (·.2)) (kvs.map (·.2))
variable {K : PySem.W.Frag} {wd wd' : Wd} {F H : Hp} {cs : Cs}
theorem MapR.cons_inv {p : κ × D} {l : List (κ × D)} {q : κ × V} {kvs : List (κ × V)} (h : MapR K wd (p :: l) (q :: kvs)) : p.1 = q.1 ∧ Rp K wd p.2 q.2 ∧ MapR K wd l kvs := by
  have a := h.ks
  simp only [List.map_cons, List.cons.injEq] at a
  obtain ⟨v, r, e, b, c⟩ := h.vs
  simp only [List.map_cons, List.cons.injEq] at e
  exact ⟨a.1, by rw [e.1]; exact b, a.2, by rw [e.2]; exact c⟩
theorem MapR.nil : MapR (κ := κ) K wd [] [] := ⟨rfl, rfl⟩
theorem MapR.cons {p : κ × D} {l : List (κ × D)} {q : κ × V} {kvs : List (κ × V)} (h1 : p.1 = q.1) (h2 : Rp K wd p.2 q.2) (h : MapR K wd l kvs) : MapR K wd (p :: l) (q :: kvs) :=
  ⟨by simp only [List.map_cons, h1, h.ks], q.2, kvs.map (·.2), rfl, h2, h.vs⟩
theorem MapR.ind {M : List (κ × D) → List (κ × V) → Prop} (h0 : M [] []) (hs : ∀ p l q kvs, p.1 = q.1 → Rp K wd p.2 q.2 → MapR K wd l kvs → M l kvs → M (p :: l) (q :: kvs)) : ∀ {l : List (κ × D)} {kvs : List (κ × V)}, MapR K wd l kvs → M l kvs
  | [], [], _ => h0
  | [], _ :: _, h => by have := h.ks; simp at this
  | _ :: _, [], h => by have := h.ks; simp at this
  | p :: l, q :: kvs, h => by
    obtain ⟨a, b, c⟩ := h.cons_inv
    exact hs p l q kvs a b c (MapR.ind h0 hs c)
theorem MapR.len {l : List (κ × D)} {kvs : List (κ × V)} (h : MapR K wd l kvs) : l.length = kvs.length := by
  have := congrArg List.length h.ks
  simpa using this
theorem MapR.some {l : List (κ × D)} {kvs : List (κ × V)} {k : κ} {d : D} (h : MapR K wd l kvs) : valT l k = some d → ∃ v, valV kvs k = some v ∧ Rp K wd d v := by
  refine MapR.ind (M := fun l kvs => valT l k = Option.some d → ∃ v, valV kvs k = Option.some v ∧ Rp K wd d v) ?_ ?_ h
  · intro e
    simp [valT] at e
  · intro p l q kvs h1 h2 _ ih e
    unfold valT at e
    by_cases z : p.1 = k
    · rw [List.find?_cons_of_pos (by simpa using z)] at e
      cases e
      exact ⟨q.2, valV_pos (h1.symm.trans z), h2⟩
    · rw [List.find?_cons_of_neg (by simpa using z)] at e
      obtain ⟨v, a, b⟩ := ih e
      exact ⟨v, by rw [valV_neg (fun y => z (h1.trans y))]; exact a, b⟩
theorem MapR.none {l : List (κ × D)} {kvs : List (κ × V)} {k : κ} (h : MapR K wd l kvs) : valT l k = none → valV kvs k = none := by
  refine MapR.ind (M := fun l kvs => valT l k = Option.none → valV kvs k = Option.none) ?_ ?_ h
  · intro _
    rfl
  · intro p l q kvs h1 h2 _ ih e
    unfold valT at e
    by_cases z : p.1 = k
    · rw [List.find?_cons_of_pos (by simpa using z)] at e
      cases e
    · rw [List.find?_cons_of_neg (by simpa using z)] at e
      rw [valV_neg (fun y => z (h1.trans y))]
      exact ih e
theorem MapR.any {l : List (κ × D)} {kvs : List (κ × V)} {k : κ} (h : MapR K wd l kvs) : (l.any fun p => decide (p.1 = k)) = kvs.any fun p => decide (p.1 = k) := by
  refine MapR.ind (M := fun l kvs => (l.any fun p => decide (p.1 = k)) = kvs.any fun p => decide (p.1 = k)) rfl ?_ h
  intro p l q kvs h1 h2 _ ih
  rw [List.any_cons, List.any_cons, ih, h1]
theorem MapR.put {l : List (κ × D)} {kvs : List (κ × V)} {k : κ} {d : D} {v : V} (h : MapR K wd l kvs) (r : Rp K wd d v) : MapR K wd (putT l k d) (putK kvs k v) := by
  unfold putT putK
  rw [h.any (k := k)]
  by_cases z : (kvs.any fun p => decide (p.1 = k)) = true
  · rw [if_pos z, if_pos z]
    refine MapR.ind (M := fun l kvs => MapR K wd (l.map fun p => if p.1 = k then (p.1, d) else p) (kvs.map fun p => if p.1 = k then (p.1, v) else p)) MapR.nil ?_ h
    intro p l q kvs h1 h2 _ ih
    rw [List.map_cons, List.map_cons]
    by_cases y : p.1 = k
    · rw [if_pos y, if_pos (h1.symm.trans y)]
      exact MapR.cons h1 r ih
    · rw [if_neg y, if_neg (fun e => y (h1.trans e))]
      exact MapR.cons h1 h2 ih
  · rw [if_neg z, if_neg z]
    refine ⟨by simp only [List.map_append, h.ks]; rfl, ?_⟩
    rw [List.map_append, List.map_append]
    exact h.vs.append (es := [d]) (ws := [v]) ⟨v, [], rfl, r, rfl⟩
end
section
variable {K : PySem.W.Frag} {wd wd' : Wd} {F H : Hp} {cs : Cs}
end
section
variable {X : Cx} {W : WX} {pos apos cpos p : Pos} {o i e f value : Expr} {co ci ce cf cv : E}
end
end G

/-! GDT3: a displayed dict with one tuple key; sets of ints. -/
namespace L2
open PySem PySem.Spec PyProof.Rows
end L2
namespace G
open PySem PySem.Spec L2
open Evl (Ex)
section
variable {X : Cx} {W : WX} {pos apos cpos p p1 p2 p3 p4 : Pos} {o a e : Expr} {co ca ce : E}
/-! ### sets of ints -/
end
end G

namespace G
end G

namespace G
end G

/-! GUse: small helpers for the laws. -/
namespace G
open PySem (Str)
end G

/-! GMean: powers, greatest common divisors, weights, mean total costs. -/
namespace G
open PySem (Str)
/-! ### weights -/
/-- the weights as a table -/
def tbl (t : List (Int × Int)) : DL := t.map fun p => (.inl p.1, .int p.2)
/-! ### the mean -/
def wsum (w : Nat → Int) (xs : List Nat) : Int := (xs.map w).sum
def whl (p : List Nat) (w : Nat → Int) : Int := wsum w (List.range p.length)
section
variable {p : List Nat} {w : Nat → Int} {k : Nat}
end
/-! the same without errors -/
end G

/-! GRing: following parents in any table of parents; rings. -/
namespace G
def ldB (q : List Nat) : Nat → Nat → Bool
  | 0, _ => false
  | n + 1, i => if par q i = i then true else ldB q n (par q i)
end G

/-! GLogs: logs, the table of ways, the number of hidden trees, as the program counts it. -/
namespace G
open PySem (Str World)
/-! ### falling powers, binomials -/
def falN (s : Nat) : Nat → Nat
  | 0 => 1
  | c + 1 => falN s c * (s - c)
def binN (s c : Nat) : Nat := falN s c / max 1 (falN c c)
/-! ### the table of ways -/
abbrev Tb := List ((Nat × Nat) × Nat)
def getI (t : Tb) (k : Nat × Nat) : Nat := ((t.find? fun q => decide (q.1 = k)).map (·.2)).getD 0
def putI (t : Tb) (k : Nat × Nat) (w : Nat) : Tb := if (t.any fun q => decide (q.1 = k)) = true then t.map (fun q => if q.1 = k then (q.1, w) else q) else t ++ [(k, w)]
def addN (t : Tb) (k : Nat × Nat) (w : Nat) : Tb := if w = 0 then t else putI t k (getI t k + w)
/-! ### what stands in a table -/
theorem keys_put {t : Tb} {k : Nat × Nat} {w : Nat} (h : (t.any fun q => decide (q.1 = k)) = true) : (t.map fun q => if q.1 = k then (q.1, w) else q).map (·.1) = t.map (·.1) := by
  rw [List.map_map]
  refine List.map_congr_left fun q _ => ?_
  show (if q.1 = k then (q.1, w) else q).1 = q.1
  split <;> rfl
theorem putI_nd {t : Tb} {k : Nat × Nat} {w : Nat} (h : (t.map (·.1)).Nodup) : ((putI t k w).map (·.1)).Nodup := by
  unfold putI
  by_cases e : (t.any fun q => decide (q.1 = k)) = true
  · rw [if_pos e, keys_put e]
    exact h
  · rw [if_neg e, List.map_append, List.nodup_append]
    refine ⟨h, by simp, fun x hx y hy => ?_⟩
    rw [List.mem_singleton.mp hy]
    intro z
    obtain ⟨q, hq, e2⟩ := List.mem_map.mp hx
    exact e (List.any_eq_true.mpr ⟨q, hq, by simpa using e2.trans z⟩)
theorem putI_mem {t : Tb} {k : Nat × Nat} {w : Nat} {q : (Nat × Nat) × Nat} (h : q ∈ putI t k w) : q = (k, w) ∨ q ∈ t := by
  unfold putI at h
  split at h
  · obtain ⟨r, hr, e⟩ := List.mem_map.mp h
    by_cases z : r.1 = k
    · rw [if_pos z] at e
      exact .inl (by rw [← e, z])
    · rw [if_neg z] at e
      exact .inr (e ▸ hr)
  · rcases List.mem_append.mp h with h | h
    · exact .inr h
    · exact .inl (List.mem_singleton.mp h)
theorem addN_nd {t : Tb} {k : Nat × Nat} {w : Nat} (h : (t.map (·.1)).Nodup) : ((addN t k w).map (·.1)).Nodup := by
  unfold addN
  split
  · exact h
  · exact putI_nd h
theorem addN_mem {t : Tb} {k : Nat × Nat} {w : Nat} {q : (Nat × Nat) × Nat} (h : q ∈ addN t k w) : (w ≠ 0 ∧ q.1 = k ∧ 0 < q.2) ∨ q ∈ t := by
  unfold addN at h
  split at h
  · exact .inr h
  · rename_i w0
    rcases putI_mem h with e | h
    · refine .inl ⟨w0, by rw [e], ?_⟩
      rw [e]
      show 0 < getI t k + w
      omega
    · exact .inr h
/-- a table behind so many first finds, with so many single ones left -/
structure TOk (pf left : Nat) (t : Tb) : Prop where
  nd : (t.map (·.1)).Nodup
  pos : ∀ q ∈ t, 0 < q.2
  key : ∀ q ∈ t, q.1.1 ≤ pf + q.1.2 ∧ q.1.2 ≤ left
theorem TOk.nil {pf left : Nat} : TOk pf left [] := ⟨by simp, fun q h => (by cases h), fun q h => (by cases h)⟩
theorem TOk.add {pf left : Nat} {t : Tb} {k : Nat × Nat} {w : Nat} (h : TOk pf left t) (hk : w ≠ 0 → k.1 ≤ pf + k.2 ∧ k.2 ≤ left) : TOk pf left (addN t k w) := by
  refine ⟨addN_nd h.nd, fun q hq => ?_, fun q hq => ?_⟩
  · rcases addN_mem hq with ⟨_, _, p⟩ | hq
    · exact p
    · exact h.pos q hq
  · rcases addN_mem hq with ⟨w0, e, _⟩ | hq
    · rw [e]; exact hk w0
    · exact h.key q hq
theorem nodup_lt {N : Nat} {l : List Nat} (nd : l.Nodup) (h : ∀ x ∈ l, x < N) : l.length ≤ N := by
  have := nodup_len N (l.map fun k : Nat => (k : Int)) (nd.map (fun k : Nat => (k : Int)) (fun x y h z => h (by omega))) fun k hk => by
    obtain ⟨j, hj, e⟩ := List.mem_map.mp hk
    have := h j hj
    omega
  simpa using this
theorem TOk.len {pf left : Nat} {t : Tb} (h : TOk pf left t) (hp : pf ≤ 64) (hl : left ≤ 64) : t.length ≤ 10000 := by
  have nd : (t.map fun q => q.1.1 * 65 + q.1.2).Nodup := by
    have := h.nd
    have e : (t.map fun q => q.1.1 * 65 + q.1.2) = (t.map (·.1)).map fun k => k.1 * 65 + k.2 := by rw [List.map_map]; rfl
    rw [e]
    refine List.pairwise_map.mpr (List.Pairwise.imp_of_mem (fun {a b} ha hb ne z => ?_) this)
    obtain ⟨q, hq, rfl⟩ := List.mem_map.mp ha
    obtain ⟨r, hr, rfl⟩ := List.mem_map.mp hb
    have k1 := h.key q hq
    have k2 := h.key r hr
    refine ne ?_
    have e1 : q.1.1 = r.1.1 := by omega
    have e2 : q.1.2 = r.1.2 := by omega
    exact Prod.ext e1 e2
  have := nodup_lt (N := 10000) nd fun x hx => by
    obtain ⟨q, hq, rfl⟩ := List.mem_map.mp hx
    have k1 := h.key q hq
    omega
  simpa using this
/-! ### a step of the table -/
def stS (left : Nat) (r : Tb) (q : (Nat × Nat) × Nat) : Tb := addN (addN r (q.1.1, q.1.2 - 1) (q.2 * q.1.2 / left)) (q.1.1 + 1, q.1.2) (q.2 * (left - q.1.2) / left)
def wSingle (t : Tb) (left : Nat) : Tb := t.foldl (stS left) []
/-! ### a path -/
def chN (free left e fresh picked : Nat) : Nat := binN (fresh - 1) picked * falN (left - e) picked * falN free (fresh - 1 - picked)
def pk (m e w free left fresh ends : Nat) (r : Tb) (picked : Nat) : Tb := if fresh - 1 - picked ≤ free then addN r (m + fresh, e + picked) (w * ends * chN free left e fresh picked) else r
def pks (m e w free left fresh ends : Nat) (r : Tb) : Tb := (List.range (min (fresh - 1) (left - e) + 1)).foldl (pk m e w free left fresh ends) r
def stP (cost pf left : Nat) (r : Tb) (q : (Nat × Nat) × Nat) : Tb := pks q.1.1 q.1.2 q.2 (pf + q.1.2 - q.1.1) left (cost - 1) q.1.1 (pks q.1.1 q.1.2 q.2 (pf + q.1.2 - q.1.1) left cost 1 r)
def wPath (t : Tb) (cost pf left : Nat) : Tb := t.foldl (stP cost pf left) []
end G

/-! GZip: zip of a tuple, or of a list, with a list. -/
namespace G
open PySem PySem.Spec PyProof.Rows L2
/-- the zip's objects -/
structure ZmSt (z TI TO i1 i2 a b : Addr) (i : Nat) (h : Heap) : Prop where
  hz : IsZip h z TI TO .none
  hI : IsPair h TI (.ref i1) (.ref i2)
  hO : ∃ x y, IsPair h TO x y
  h1 : h.IsTupleIter i1 a i
  h2 : h.IsListIter i2 b i
section
variable {prog : Program} {w : World} {A : Around} {E : Value → Shared → Prop} {s : Shared}
end
section
variable {X : Cx} {W : WX} {a b e e2 : Expr} {ca cb : E} {ta : TA} {p pos tpos : Pos} {elts : List Expr} {kk : Nat}
end
end G

namespace G
end G

/-! GLog: logs of finds. -/
namespace G
open PySem (Str)
def prD (q : Nat × Nat) : D := .tup [.int (q.1 : Nat), .int (q.2 : Nat)]
def lgI (l : List (Nat × Nat)) : List D := l.map prD
@[simp] theorem lgI_len {l : List (Nat × Nat)} : (lgI l).length = l.length := by simp [lgI]
end G

/-! GUse2: small helpers for the laws: comprehensions, lengths, loops. -/
namespace G
theorem comp_of {α : Type} {p : Pat} {grd : Cs → Prop} {σ : Sl} {tst elt : Sl → Cs → KD → Prop} {Q : List D → Cs → Prop} {cs : Cs} (f : α → D) (t : α → Bool) (g : α → D) (hg : grd cs) : ∀ (l : List α) (acc : List D),
    (∀ x ∈ l, ∃ σ1, bindP p [f x] σ = some σ1 ∧ (∀ K : KD, K (.bl (t x)) cs → tst σ1 cs K) ∧ (t x = true → ∀ K : KD, K (g x) cs → elt σ1 cs K)) →
    acc.length + l.length ≤ lim → Q (acc ++ (l.filter t).map g) cs → compL p grd σ tst elt Q (l.map f) acc cs
  | [], acc, _, _, hQ => ⟨hg, by simpa using hQ⟩
  | x :: xs, acc, h, hl, hQ => by
    obtain ⟨σ1, hb, ht, he⟩ := h x List.mem_cons_self
    refine ⟨hg, ?_⟩
    rw [hb]
    have ih := fun acc => comp_of (tst := tst) (elt := elt) (Q := Q) f t g hg xs acc fun y hy => h y (List.mem_cons_of_mem _ hy)
    have hl2 : acc.length + (xs.length + 1) ≤ lim := by simpa using hl
    refine ht _ ?_
    cases e : t x with
    | true =>
      refine .inl ⟨rfl, he e _ ⟨by omega, ih _ (by simp; omega) ?_⟩⟩
      simpa [e] using hQ
    | false =>
      refine .inr ⟨rfl, ih _ (by omega) ?_⟩
      simpa [e] using hQ
theorem grdS {x : D} {xs : List D} {cs : Cs} (h : isSeq x xs) : grdL x cs cs := by
  rcases h with rfl | rfl <;> trivial
theorem int_beq {a b : Nat} : (((a : Nat) : Int) == ((b : Nat) : Int)) = decide (a = b) := by
  by_cases h : a = b
  · subst h; simp
  · rw [decide_eq_false h]
    exact beq_false_of_ne (by omega)
theorem len_s {x : D} {xs : List D} {cs : Cs} {Q : KD} {X : KX} (h : isSeq x xs) : sLen [x] cs Q X = Q (.int (xs.length : Nat)) cs := by
  rcases h with rfl | rfl <;> rfl
theorem l0 : (([] : List D).length ≤ lim) = True := eq_true (Nat.zero_le _)
theorem l1 {x : D} : ([x].length ≤ lim) = True := eq_true (show 1 ≤ 16777216 by decide)
theorem l2 {x y : D} : ([x, y].length ≤ lim) = True := eq_true (show 2 ≤ 16777216 by decide)
theorem l3 {x y z : D} : ([x, y, z].length ≤ lim) = True := eq_true (show 3 ≤ 16777216 by decide)
theorem l4 {x y z w : D} : ([x, y, z, w].length ≤ lim) = True := eq_true (show 4 ≤ 16777216 by decide)
theorem rep_e {x : D} {k : Int} {cs : Cs} {Q : KD} {X : KX} (h0 : 0 ≤ k) (hk : k ≤ 10) (hQ : Q (.lst (List.replicate k.toNat [x]).flatten) cs) : sRep [.lst [x], .int k] cs Q X := ⟨by omega, by omega, show 1 * k.toNat ≤ 16777216 by omega, hQ⟩
end G

/-! GLogs2: what a log says; the number of trees that agree with it, as the program counts it. -/
namespace G
open PySem (Str World)
theorem cutHi_t {xs : List D} {i : Nat} {cs : Cs} {Q : KD} {X : KX} (h : i < xs.length) (hQ : Q (.tup (xs.take i)) cs) : sCutHi [.tup xs, .int (i : Nat)] cs Q X := by
  have e : cutD xs none (some (i : Nat)) = xs.take i := by
    unfold cutD sIxAt
    simp
    rw [if_neg (by omega)]
    omega
  refine ⟨fun z => ?_, e ▸ hQ⟩
  have := z.2
  unfold sIxAt at this
  simp at this
  rw [if_neg (by omega)] at this
  omega
abbrev Lg := List (Nat × Nat)
def agr (pre : Lg) (q : Nat × Nat) : Bool := match pre.filter fun e => decide (e.1 = q.1) with
  | [] => decide (0 < q.2) || !(pre.any fun e => decide (e.2 = 0))
  | e :: _ => decide (q.2 = min 1 e.2)
/-! ### conflicts -/
def conf (l : Lg) : List Nat := (List.range l.length).filter fun i => !(agr (l.take i) (l.getD i (0, 0)))
/-! ### the known root -/
/-! ### first finds -/
def stF (r : List (Nat × Nat × Nat) × Lg) (q : Nat × Nat) : List (Nat × Nat × Nat) × Lg := (if (!(r.2.any fun e => decide (e.1 = q.1)) && decide (0 < q.2)) = true then r.1 ++ [(r.2.length, q.1, q.2)] else r.1, r.2 ++ [q])
def firsts (l : Lg) : List (Nat × Nat × Nat) := (l.foldl stF ([], [])).1
end G

/-! GLogs3: the table of a log, the number of trees. -/
namespace G
open PySem (Str World)
def tabGo (plain : Nat) : Nat → Nat → List Nat → Tb → Tb
  | _, _, [], t => t
  | found, left, c :: r, t => if c = 1 then tabGo plain (found + 1) (left - 1) r (wSingle t left) else tabGo plain (found + 1) left r (wPath t c (plain + found) left)
def cnt1 (r : List Nat) : Nat := (r.filter fun c => decide (c = 1)).length
def tabF (size : Nat) (r : List Nat) : Tb := if r.length < size then tabGo (size - 1 - r.length) 0 (cnt1 r) r [((0, 0), 1)] else []
def costs (l : Lg) : List Nat := (firsts l).map fun q => q.2.2
/-! ### the number of trees -/
def endW (size m : Nat) : Nat := if m + 1 < size then (m + 1) * size ^ (size - 1 - m - 1) else 1
def totT (size : Nat) (r : List Nat) : Nat := ((tabF size r).map fun q => q.2 * endW size q.1.1).sum
def totN (size : Nat) (l : Lg) : Nat := match conf l with
  | [] => totT size (costs l) * (if (l.any fun e => decide (e.2 = 0)) = true then 1 else size - (costs l).length)
  | _ :: _ => 0
/-! ### what is asked for -/
/-- logs that pass the check -/
def LgOk (size : Nat) (l : Lg) : Prop := size ≤ 20 ∧ l.length ≤ 60 ∧ ∀ q ∈ l, q.1 < size
def spCH2 : Spec := fun ds cs Q _ => ∃ size x l, ds = [.int (size : Nat), x] ∧ isSeq x (lgI l) ∧ LgOk size l ∧ Q (.int (totN size l : Nat)) cs
end G

/-! GCount5: the program's table of ways gives the number by exposing paths. Plain mathematics. -/
namespace G
/-! ### choices -/
def ch : Nat → Nat → Nat
  | _, 0 => 1
  | 0, _ + 1 => 0
  | n + 1, k + 1 => ch n (k + 1) + ch n k
@[simp] theorem ch_0 {n : Nat} : ch n 0 = 1 := by cases n <;> rfl
/-! ### sums over the nodes marked early -/
def prd : Nat → (Nat → Nat) → Nat
  | 0, _ => 0
  | e + 1, f => f e
def SumE : List Nat → Nat → (List Bool → Nat) → Nat
  | [], e, φ => if e = 0 then φ [] else 0
  | c :: cs, e, φ => (if c = 1 then prd e (fun e => SumE cs e fun E => φ (true :: E)) else 0) + SumE cs e fun E => φ (false :: E)
/-- the number, summed over the nodes marked early -/
def hS (n : Nat) (cs : List Nat) (f fr e : Nat) : Nat := SumE cs e fun E => hN n cs f fr E
/-! ### the table's value -/
def DOk (left : Nat) (t : Tb) : Prop := (t.map (·.1)).Nodup ∧ ∀ q ∈ t, ch left q.1.2 ∣ q.2
theorem DOk.nil {left : Nat} : DOk left [] := ⟨by simp, fun _ h => by cases h⟩
end G

/-! GCount6: the program's number of hidden trees is the number of trees that agree with the log. Plain mathematics. -/
namespace G
/-- the costs of finds, by marks -/
def cl (p : List Nat) : (Nat → Bool) → List Nat → List Nat
  | _, [] => []
  | M, i :: r => ncost p M i :: cl p (more p M i) r
section
variable {n r : Nat} {p : List Nat}
/-- the first finds: nodes and costs -/
def fl (l : Lg) : List (Nat × Nat) := (firsts l).map (·.2)
end
/-! ### the first finds of a log without conflicts -/
/-! ### the number -/
end G

/-! GHid: the hidden tree that the program builds agrees with the log. Plain mathematics. -/
namespace G
/-- parents along a line -/
def stl (p : List Nat) (line : List Nat) : List Nat := (line.zip line.tail).foldl (fun q x => q.set x.1 x.2) p
def hstep (r : Nat) (s : List Nat × List Nat × Option Nat) (x : Nat × Nat) : List Nat × List Nat × Option Nat :=
  if 1 < x.2 then (stl s.1 ((x.1 :: (s.2.1.erase x.1).take (x.2 - 1 - (if s.2.2.isSome then 1 else 0))) ++ [s.2.2.getD r]), (s.2.1.erase x.1).drop (x.2 - 1 - (if s.2.2.isSome then 1 else 0)), some x.1)
  else (s.1, s.2.1.erase x.1, some x.1)
def plainN (n : Nat) (L : List (Nat × Nat)) : List Nat := (List.range n).filter fun i => !decide (i ∈ L.map (·.1))
def ones (L : List (Nat × Nat)) : List Nat := (L.filter fun x => decide (x.2 = 1)).map (·.1)
def spare0 (n r : Nat) (L : List (Nat × Nat)) : List Nat := ones L ++ (plainN n L).filter fun i => !decide (i = r)
def hidN (n r : Nat) (L : List (Nat × Nat)) : List Nat := (L.foldl (hstep r) (List.replicate n r, spare0 n r L, none)).1
/-! ### a line, the top first -/
/-! ### what is needed -/
def nd (b : Bool) : List (Nat × Nat) → Nat
  | [] => 0
  | x :: L => (x.2 - 1 - (if b then 1 else 0)) + nd true L
/-- the state while the tree is built -/
structure Hid (n r : Nat) (P : List Nat) (L : List (Nat × Nat)) (F : Nat → Bool) (s : List Nat × List Nat × Option Nat) : Prop where
  st : Sta n r F (par s.1)
  len : s.1.length = n
  nf : ∀ i, i < n → F i = false → par s.1 i = r
  lok : LOk n r L
  snd : s.2.1.Nodup
  sok : ∀ x ∈ s.2.1, x < n ∧ F x = false
  suf : s.2.1 <:+ ones L ++ P
  pl : ∀ x ∈ P, x ∉ L.map (·.1)
  one : ∀ x ∈ L, x.2 = 1 → x.1 ∈ s.2.1 ∨ F x.1 = true
  two : ∀ x ∈ L, 2 ≤ x.2 → F x.1 = false
  lst : ∀ t, s.2.2 = some t → t < n ∧ F t = true ∧ t ≠ r
  need : nd s.2.2.isSome L ≤ s.2.1.length
  cnd : ∀ A x B, L = A ++ x :: B → x.2 = 1 → nd true B ≤ (ones B).length + P.length
theorem Sta.congr {n r : Nat} {F : Nat → Bool} {q q' : Nat → Nat} (h : Sta n r F q) (e : ∀ j, q j = q' j) : Sta n r F q' := by
  have : q = q' := funext e
  rw [← this]; exact h
end G

/-! GDComp: dict comprehensions. -/
namespace G
open PySem PySem.Spec L2
open Evl (Ex)
section
variable {X : Cx} {W : WX} {pos : Pos} {cc ck cv : E}
end
end G

/-! GMaxV: max(d.values(), default=i). -/
namespace L2
open PySem PySem.Spec PyProof.Rows
section
variable {X : Cx} {o : Expr} {p pos apos mpos cpos kpos : Pos} {td : TE} {i : Int} {jk : Nat}
end
end L2
namespace G
open PySem PySem.Spec L2
open Evl (Ex)
section
variable {X : Cx} {W : WX} {o a b : Expr} {p pos apos mpos cpos kpos : Pos} {co ca cb : E} {i : Int} {jk : Nat}
end
end G

/-! GDin: x in d for dicts as cells. -/
namespace L2
open PySem PySem.Spec PyProof.Rows
end L2
namespace G
open PySem PySem.Spec L2
section
variable {X : Cx} {W : WX} {pos : Pos} {o a : Expr} {co ca : E}
end
end G

namespace G
end G

/-! GIsF: is_forest. -/
namespace G
def nats (xs : List Int) : List Nat := xs.map Int.toNat
def rings (xs : List Int) : List Nat := (List.range xs.length).filter fun i => !ldB (nats xs) xs.length i
/-! ### forests as numbers -/
def rk (q : List Nat) : Nat → Nat → Nat
  | 0, _ => 0
  | n + 1, i => if par q i = i then 0 else rk q n (par q i) + 1
/-! ### all rows -/
end G

namespace G
def c_find_hidden_1 (p_count_hidden : G.Spec) (p_hidden_tree : G.Spec) : S := (.ret (.ite (.app sGt (.cons (.app p_count_hidden (.cons (.v 0) (.cons (.v 1) .nil))) (.cons (.c (.int 0)) .nil))) (.app p_hidden_tree (.cons (.v 0) (.cons (.v 1) .nil))) (.c .non)))
def c_find_hidden (p_count_hidden : G.Spec) (p_hidden_tree : G.Spec) : S := (c_find_hidden_1 p_count_hidden p_hidden_tree)
end G

/-! GErr2: roots, depths that may raise; lists of equal answers. -/
namespace G
open PySem (Str)
theorem flat_rep {m : Nat} {x : D} : (List.replicate m [x]).flatten = List.replicate m x := by
  induction m with
  | zero => rfl
  | succ m ih => simp [List.replicate_succ, ih]
end G

/-! GPair: paths in forests held as lists; parents exchanged; needed nodes one by one; ways counted. -/
namespace G
open PySem (Str)
/-- a forest however held -/
structure At (cs : Cs) (x : D) (p : List Nat) : Prop where
  str : ∀ s, x ≠ .str s
  q : ∀ c, Le cs c → getQ x c = some (nI p)
theorem At.fD {cs : Cs} {p : List Nat} : At cs (fD p) p := ⟨fD_str, fun _ _ => rfl⟩
theorem At.cell {cs : Cs} {n : Nat} {p : List Nat} (h : cs n = some (.lst (nI p))) : At cs (.ref n) p := ⟨fun s e => (by cases e), fun c le => getQ_cell (le n _ h)⟩
/-! ### a parent exchanged -/
end G

/-! GPairX: pairs that may not fit; ways that may be barred. -/
namespace G
open PySem (Str)
def unlike (p q : List Nat) : List Nat := (List.range p.length).filter fun i => decide (par p i = i) != decide (par q i = i)
end G

/-! GPairY: rooted pairs, count_ways, is_needed. -/
namespace G
theorem Pair.trans {p q s : List Nat} (a : Pair p q) (b : Pair q s) : Pair p s := ⟨b.len.trans a.len, fun i hi => (a.rts i hi).trans (b.rts i (by rw [a.len]; exact hi))⟩
theorem Pair.refl {p : List Nat} : Pair p p := ⟨rfl, fun _ _ => Iff.rfl⟩
/-! ### counted, one by one -/
/-! ### needed_finds, its result in a cell -/
end G

/-! GInD: in, not in over lists of trees. -/
namespace G
open PySem PySem.Spec L2
open Evl (Ex)
section
variable {X : Cx} {W : WX} {pos : Pos} {a b c e : Expr} {ca cb cc ce : E} {K : PySem.W.Frag}
end
end G

/-! GPairZ: count_ways, way_cost, is_needed, bar_holds with errors; the barring pairs. -/
namespace G
/-! ### bars -/
def barN (p q : List Nat) : List (Nat × Nat) := (chg p q).flatMap fun i => (wrong p q i).map fun a => (i, a)
def inB (p q : List Nat) (u v : Int) : Bool := (barN p q).any fun x => (x.1 : Int) == u && (x.2 : Int) == v
end G

/-! GTree: the roots in a list; a forest flattened; equal lists. -/
namespace G
end G

/-! GLogP: certificates of logs: slots, fillers, what holds. -/
namespace G
open PySem (Str World)
end G

/-! GPap: certificates, the laws' own logs. -/
namespace G

theorem w1 : strOk "tree" = true := by decide +kernel
theorem w2 : strOk "conflict" = true := by decide +kernel
theorem w3 : strOk "short" = true := by decide +kernel
/-! ### conflicts, as the law lists them -/
/-! ### slots, as the law counts them -/
end G

/-! GHid2: slots and fillers: when a log has a tree. Plain mathematics. -/
namespace G
section
variable {n r : Nat} {p : List Nat}
/-- closed upwards -/
structure Clo (n r : Nat) (p : List Nat) (F : Nat → Bool) : Prop where
  rn : r < n
  fr : F r = true
  up : ∀ i, i < n → F i = true → i ≠ r → F (par p i) = true
theorem Clo.co {F : Nat → Bool} (g : Good n r p) : Co n r F (par p) p := ⟨g, fun _ _ _ => rfl⟩
def adP (p : List Nat) (F : Nat → Bool) (v : Nat) : Nat → Bool := fun j => F j || decide (j ∈ path p v)
theorem path_up (g : Good n r p) {v i : Nat} (hv : v < n) (hi : i ∈ path p v) (hr : i ≠ r) : par p i ∈ path p v := by
  refine up_ind g.fo (M := fun v => ∀ i ∈ path p v, i ≠ r → par p i ∈ path p v) (fun v hv e i hi hr => ?_) (fun v hv e ih i hi hr => ?_) v (g.lt hv) i hi hr
  · rw [path_root g.fo hv e] at hi ⊢
    have : i = v := by simpa using hi
    rw [this, e]
    simp
  · have hv' : v < n := by rw [← g.row.1]; exact hv
    rw [path_step g.fo hv e] at hi ⊢
    rcases List.mem_cons.mp hi with z | hi
    · rw [z]
      exact List.mem_cons_of_mem _ (mem_self g.fo (par_lt g.fo hv))
    · exact List.mem_cons_of_mem _ (ih i hi hr)
theorem Clo.add {F : Nat → Bool} (g : Good n r p) (h : Clo n r p F) {v : Nat} (hv : v < n) : Clo n r p (adP p F v) := by
  refine ⟨h.rn, by simp [adP, h.fr], fun i hi fi e => ?_⟩
  unfold adP at *
  rw [Bool.or_eq_true] at fi ⊢
  rcases fi with fi | fi
  · exact .inl (h.up i hi fi e)
  · exact .inr (decide_eq_true (path_up g hv (of_decide_eq_true fi) e))
end
/-! ### slots -/
def sl' : Bool → List (Nat × Nat × Nat) → List (Nat × Nat)
  | _, [] => []
  | b, q :: fs => (q.1, q.2.2 - 1 - (if b = true then 1 else 0)) :: sl' true fs
section
variable {n r : Nat} {p : List Nat}
end
/-! ### the tree -/
def hroot (n : Nat) (l : Lg) : Nat := match l.filter fun e => decide (e.2 = 0) with
  | e :: _ => e.1
  | [] => (plainN n (fl l)).headD 0
end G

/-! GFindH: hidden_tree, find_hidden, next_costs, log_paper. -/
namespace G
theorem cutHi_q {x : D} {xs : List D} {i : Nat} {cs : Cs} {Q : KD} {X : KX} (h : getL x cs = some xs) (hQ : Q (.lst (xs.take i)) cs) : sCutHi [x, .int (i : Nat)] cs Q X := by
  have e : cutD xs none (some (i : Nat)) = xs.take i := by
    unfold cutD sIxAt
    simp
    rw [if_neg (by omega)]
    omega
  have go : (match G.getL x cs with
    | some xs => Q (.lst (cutD xs none (some (i : Nat)))) cs
    | none => False) := by
    rw [h]
    dsimp only
    rw [e]
    exact hQ
  cases x with
  | tup _ => cases h
  | lst _ => exact go
  | ref _ => exact go
  | _ => cases h
theorem Hid.foldl {n r : Nat} {P L : List (Nat × Nat)} : True := trivial
/-- how long lists stay -/
structure Sz (n : Nat) (s : List Nat × List Nat × Option Nat) : Prop where
  a : s.1.length = n
  b : s.2.1.length ≤ 64
  c : ∀ x ∈ s.2.1, x < n
  d : ∀ t, s.2.2 = some t → t < n
theorem stl_len : ∀ (line p : List Nat), (stl p line).length = p.length := by
  intro line
  unfold stl
  generalize line.zip line.tail = z
  induction z with
  | nil => intro p; rfl
  | cons x z ih => intro p; rw [List.foldl_cons, ih]; simp
theorem Sz.step {n r : Nat} {s : List Nat × List Nat × Option Nat} (h : Sz n s) {x : Nat × Nat} (hx : x.1 < n) : Sz n (hstep r s x) := by
  have l1 : (s.2.1.erase x.1).length ≤ 64 := Nat.le_trans (List.length_erase_le) h.b
  unfold hstep
  split
  · refine ⟨by rw [stl_len]; exact h.a, by rw [List.length_drop]; omega, fun y hy => h.c y (List.mem_of_mem_erase (List.mem_of_mem_drop hy)), fun t e => ?_⟩
    cases e; exact hx
  · refine ⟨h.a, l1, fun y hy => h.c y (List.mem_of_mem_erase hy), fun t e => ?_⟩
    cases e; exact hx
def LgV (n : Nat) (l : Lg) : Prop := n ≤ 64 ∧ l.length ≤ 64 ∧ ∀ q ∈ l, q.1 < n
def spHT : Spec := fun ds cs Q _ => ∃ n x l, ds = [.int (n : Nat), x] ∧ isSeq x (lgI l) ∧ LgV n l ∧ 0 < totN n l ∧ Q (fD (hidN n (hroot n l) (fl l))) cs
/-! ### find_hidden -/
def findD (n : Nat) (l : Lg) : D := if 0 < totN n l then fD (hidN n (hroot n l) (fl l)) else .non
def spFH : Spec := fun ds cs Q _ => ∃ n x l, ds = [.int (n : Nat), x] ∧ isSeq x (lgI l) ∧ LgOk n l ∧ Q (findD n l) cs
theorem LgOk.v {n : Nat} {l : Lg} (h : LgOk n l) : LgV n l := ⟨by have := h.1; omega, by have := h.2.1; omega, h.2.2⟩
theorem ok_fh : okFn 2 (c_find_hidden spCH2 spHT) spFH := by
  rintro ds cs Q X ⟨n, x, l, rfl, hs, ho, hQ⟩
  show wpS (c_find_hidden_1 spCH2 spHT) [some (.int (n : Nat)), some x] cs _
  rw [c_find_hidden_1, wpS]
  refine wpE_ifb (decide (0 < totN n l)) (fun K hK => ?_) (fun e => ?_) fun e => ?_
  · simp only [wpE_app, wpEs_cons, wpEs_nil, wpE_v, wpE_c, getV]
    refine ⟨n, x, l, rfl, hs, ho, ?_⟩
    dsimp only
    rw [sGt_i]
    have : decide ((0 : Int) < ((totN n l : Nat) : Int)) = decide (0 < totN n l) := by
      by_cases z : 0 < totN n l
      · rw [decide_eq_true z, decide_eq_true (by omega)]
      · rw [decide_eq_false z, decide_eq_false (by omega)]
    rw [this]
    exact hK
  · have e := of_decide_eq_true e
    simp only [wpE_app, wpEs_cons, wpEs_nil, wpE_v, wpE_c, getV]
    refine ⟨n, x, l, rfl, hs, ho.v, e, ?_⟩
    unfold findD at hQ
    rwa [if_pos e] at hQ
  · have e := of_decide_eq_false e
    rw [wpE_c]
    unfold findD at hQ
    rwa [if_neg e] at hQ
/-! ### next_costs -/
end G

/-! GGen0: operations with one answer. -/
namespace G
theorem le_d {i j : Int} {cs : Cs} : SpD sLe [.int i, .int j] cs (.bl (decide (i ≤ j))) := fun Q X h => by rw [sLe_i]; exact h
theorem add_d {i j : Int} {cs : Cs} : SpD sAdd [.int i, .int j] cs (.int (i + j)) := fun Q X h => by rw [sAdd_i]; exact h
theorem sub_d {i j : Int} {cs : Cs} : SpD sSub [.int i, .int j] cs (.int (i - j)) := fun Q X h => by rw [sSub_i]; exact h
theorem ix_d {x : D} {i : Int} {xs : List D} {d : D} {cs : Cs} (h : getQ x cs = some xs) (hd : ix xs i = some d) : SpD sIx [x, .int i] cs d := fun Q X k => by rw [sIx_l h hd]; exact k
theorem len_d {x : D} {xs : List D} {cs : Cs} (h : isSeq x xs) : SpD sLen [x] cs (.int (xs.length : Nat)) := fun Q X k => by rw [len_s h]; exact k
theorem tup_d {ds : List D} {cs : Cs} (h : ds.length ≤ 16777216) : SpD sTup ds cs (.tup ds) := fun Q X k => ⟨h, k⟩
theorem list_d {ds : List D} {cs : Cs} (h : ds.length ≤ 16777216) : SpD sList ds cs (.lst ds) := fun Q X k => ⟨h, k⟩
end G

namespace K11
open G
open PySem (Str PyData)
open PySem
/-- steps of any form -/
inductive Gp where
  | nd (i : Int)
  | sh (o : Option (Str × Option Int))
  | ti (w : Str) (i j : Int)
  | ts (w : Str) (i : Int) (b : Bool) (ss : List Gp)
mutual
def gD : Gp → D
  | .nd i => .int i
  | .sh none => .tup []
  | .sh (some (w, none)) => .tup [.str w]
  | .sh (some (w, some i)) => .tup [.str w, .int i]
  | .ti w i j => .tup [.str w, .int i, .int j]
  | .ts w i b ss => .tup [.str w, .int i, sqD b (gDs ss)]
def gDs : List Gp → List D
  | [] => []
  | s :: ss => gD s :: gDs ss
end
theorem gDs_map : ∀ ss : List Gp, gDs ss = ss.map gD
  | [] => rfl
  | s :: ss => by rw [gDs, gDs_map ss]; rfl
mutual
def dpS : Gp → Nat
  | .nd _ => 0
  | .sh _ => 0
  | .ti _ _ _ => 0
  | .ts _ _ _ ss => dpL ss + 1
def dpL : List Gp → Nat
  | [] => 0
  | s :: ss => max (dpS s) (dpL ss)
end
mutual
def szS : Gp → Nat
  | .nd _ => 1
  | .sh _ => 1
  | .ti _ _ _ => 1
  | .ts _ _ _ ss => szL ss + 1
def szL : List Gp → Nat
  | [] => 0
  | s :: ss => szS s + szL ss
end
def Wd (w : Str) : Prop := w ∈ (["link", "repeat", "find", "Link", "rounds", ""] : List Str)
def Big (i : Int) : Prop := i.natAbs < 10 ^ 40
mutual
def inG : Gp → Prop
  | .nd i => Big i
  | .sh none => True
  | .sh (some (w, none)) => Wd w
  | .sh (some (w, some i)) => Wd w ∧ Big i
  | .ti w i j => Wd w ∧ Big i ∧ Big j
  | .ts w i _ ss => Wd w ∧ Big i ∧ inGL ss
def inGL : List Gp → Prop
  | [] => True
  | s :: ss => inG s ∧ inGL ss
end
theorem inGL_mem : ∀ {ss : List Gp}, inGL ss ↔ ∀ s ∈ ss, inG s
  | [] => by simp [inGL]
  | s :: ss => by simp [inGL, inGL_mem (ss := ss)]
theorem szS_pos : ∀ s, 0 < szS s
  | .nd _ => by simp [szS]
  | .sh _ => by simp [szS]
  | .ti _ _ _ => by simp [szS]
  | .ts _ _ _ ss => by simp [szS]
theorem szL_len : ∀ ss : List Gp, ss.length ≤ szL ss
  | [] => by simp [szL]
  | s :: ss => by
    have := szS_pos s
    have := szL_len ss
    simp [szL]
    omega
theorem szL_app : ∀ a b : List Gp, szL (a ++ b) = szL a + szL b
  | [], b => by simp [szL]
  | s :: a, b => by simp [szL, szL_app a b]; omega
theorem dpL_app : ∀ a b : List Gp, dpL (a ++ b) = max (dpL a) (dpL b)
  | [], b => by simp [dpL]
  | s :: a, b => by simp [dpL, dpL_app a b] <;> omega
theorem dpL_mem : ∀ {ss : List Gp} {s : Gp}, s ∈ ss → dpS s ≤ dpL ss
  | s' :: ss, s, h => by
    rcases List.mem_cons.mp h with rfl | h
    · simp [dpL] <;> omega
    · have := dpL_mem h
      simp [dpL] <;> omega
theorem szL_mem : ∀ {ss : List Gp} {s : Gp}, s ∈ ss → szS s ≤ szL ss
  | s' :: ss, s, h => by
    rcases List.mem_cons.mp h with rfl | h
    · simp [szL]
    · have := szL_mem h
      simp [szL] <;> omega
theorem wd_ok {w : Str} (h : Wd w) : strOk w = true := by
  simp only [Wd, List.mem_cons, List.mem_nil_iff, or_false] at h
  rcases h with rfl | rfl | rfl | rfl | rfl | rfl <;> decide +kernel
theorem wd_len {w : Str} (h : Wd w) : (reprText w).length ≤ 10 := by
  simp only [Wd, List.mem_cons, List.mem_nil_iff, or_false] at h
  rcases h with rfl | rfl | rfl | rfl | rfl | rfl <;> decide +kernel
theorem wd_rep {w : Str} (h : Wd w) : strOk (reprText w) = true := by
  simp only [Wd, List.mem_cons, List.mem_nil_iff, or_false] at h
  rcases h with rfl | rfl | rfl | rfl | rfl | rfl <;> decide +kernel
theorem wL : Wd "link" := by simp [Wd]
theorem wR : Wd "repeat" := by simp [Wd]
mutual
theorem gD_pur : ∀ (k : Nat) (s : Gp), 2 * dpS s + 1 ≤ k → szS s ≤ 10000 → inG s → pur k (gD s) = true
  | k, .nd i, h, _, _ => by rw [gD]; exact pur_int
  | 0, s, h, _, _ => by omega
  | k + 1, .sh none, h, _, _ => by rw [gD]; rfl
  | k + 1, .sh (some (w, none)), h, _, hw => by
    rw [gD]
    simp only [inG] at hw
    show (decide (1 ≤ 16777216) && (pur k (.str w) && true)) = true
    rw [pur_str (wd_ok hw)]
    rfl
  | k + 1, .sh (some (w, some i)), h, _, hw => by
    rw [gD]
    simp only [inG] at hw
    exact pur_tup2 (pur_str (wd_ok hw.1)) pur_int
  | k + 1, .ti w i j, h, _, hw => by
    rw [gD]
    simp only [inG] at hw
    show (decide (3 ≤ 16777216) && (pur k (.str w) && (pur k (.int i) && (pur k (.int j) && true)))) = true
    rw [pur_str (wd_ok hw.1), pur_int, pur_int]
    rfl
  | k + 1, .ts w i b ss, h, hs, hw => by
    rw [gD]
    simp only [inG] at hw
    simp only [dpS] at h
    simp only [szS] at hs
    obtain ⟨k, rfl⟩ : ∃ j, k = j + 1 := ⟨k - 1, by omega⟩
    have := gDs_pur k ss (by omega) (by omega) hw.2.2
    have l := szL_len ss
    have lp : pur (k + 1) (sqD b (gDs ss)) = true := by
      cases b
      · show (decide ((gDs ss).length ≤ 16777216) && purs k (gDs ss)) = true
        rw [this, gDs_map, List.length_map, decide_eq_true (show ss.length ≤ 16777216 by omega)]
        rfl
      · show (decide ((gDs ss).length ≤ 16777216) && purs k (gDs ss)) = true
        rw [this, gDs_map, List.length_map, decide_eq_true (show ss.length ≤ 16777216 by omega)]
        rfl
    show (decide (3 ≤ 16777216) && (pur (k + 1) (.str w) && (pur (k + 1) (.int i) && (pur (k + 1) (sqD b (gDs ss)) && true)))) = true
    rw [pur_str (wd_ok hw.1), pur_int, lp]
    rfl
theorem gDs_pur : ∀ (k : Nat) (ss : List Gp), 2 * dpL ss + 1 ≤ k → szL ss ≤ 10000 → inGL ss → purs k (gDs ss) = true
  | _, [], _, _, _ => rfl
  | k, s :: ss, h, hs, hw => by
    simp only [inGL] at hw
    simp only [dpL] at h
    simp only [szL] at hs
    show (pur k (gD s) && purs k (gDs ss)) = true
    rw [gD_pur k s (by omega) (by omega) hw.1, gDs_pur k ss (by omega) (by omega) hw.2]
    rfl
end
theorem lst_pur {k : Nat} {ss : List Gp} (h : 2 * dpL ss + 1 ≤ k) (hs : szL ss ≤ 10000) (hw : inGL ss) : pur (k + 1) (.lst (gDs ss)) = true := by
  have l := szL_len ss
  show (decide ((gDs ss).length ≤ 16777216) && purs k (gDs ss)) = true
  rw [gDs_pur k ss h hs hw, gDs_map, List.length_map, decide_eq_true (show ss.length ≤ 16777216 by omega)]
  rfl
theorem s_shw {w : Str} (h : Wd w) : (PyData.str w).showable = true := by
  simp only [Wd, List.mem_cons, List.mem_nil_iff, or_false] at h
  rcases h with rfl | rfl | rfl | rfl | rfl | rfl <;> decide +kernel
mutual
theorem gD_shw : ∀ s : Gp, inG s → (toP (gD s)).showable = true ∧ (toP (gD s)).shown.length + 2 ≤ 200 * szS s ∧ rOk (gD s)
  | .nd i, h => by
    simp only [inG] at h
    simp only [gD, toP, szS, rOk]
    have := int_len h
    exact ⟨int_shw h, by omega, trivial⟩
  | .sh none, h => by
    simp only [gD, toP, toPs, szS, rOk, rOks]
    refine ⟨rfl, ?_, trivial⟩
    have z := tupleText_len_le []
    simp only [PyData.shown, PyData.shownAll, List.map_nil, List.sum_nil, List.length_nil] at *
    omega
  | .sh (some (w, none)), h => by
    simp only [inG] at h
    have z := tupleText_len_le [reprText w]
    have z1 := wd_len h
    refine ⟨?_, ?_, ?_⟩
    · simp only [gD, toP, toPs, PyData.showable, PyData.showableAll]
      have := s_shw h
      simp only [PyData.showable] at this
      first | rfl | (rw [this]; rfl) | simp [this]
    · simp only [gD, toP, toPs, PyData.shown, PyData.shownAll, szS] at *
      simp only [List.map_cons, List.map_nil, List.sum_cons, List.sum_nil, List.length_cons, List.length_nil] at z
      omega
    · simp only [gD, rOk, rOks]
      exact ⟨wd_rep h, trivial⟩
  | .sh (some (w, some i)), h => by
    simp only [inG] at h
    have h1 := int_len h.2
    have z1 := wd_len h.1
    have z := tupleText_len_le [reprText w, PyData.shown (.int i)]
    refine ⟨?_, ?_, ?_⟩
    · simp only [gD, toP, toPs, PyData.showable, PyData.showableAll] at *
      have a1 := int_shw h.2
      simp only [PyData.showable] at a1
      rw [a1]
      rfl
    · simp only [gD, toP, toPs, PyData.shown, PyData.shownAll, szS] at *
      simp only [List.map_cons, List.map_nil, List.sum_cons, List.sum_nil, List.length_cons, List.length_nil] at z
      omega
    · simp only [gD, rOk, rOks]
      exact ⟨wd_rep h.1, trivial, trivial⟩
  | .ti w c a, h => by
    simp only [inG] at h
    have h1 := int_len h.2.1
    have h2 := int_len h.2.2
    have z1 := wd_len h.1
    have z := tupleText_len_le [reprText w, PyData.shown (.int c), PyData.shown (.int a)]
    refine ⟨?_, ?_, ?_⟩
    · simp only [gD, toP, toPs, PyData.showable, PyData.showableAll] at *
      have a1 := int_shw h.2.1
      have a2 := int_shw h.2.2
      simp only [PyData.showable] at a1 a2
      rw [a1, a2]
      rfl
    · simp only [gD, toP, toPs, PyData.shown, PyData.shownAll, szS] at *
      simp only [List.map_cons, List.map_nil, List.sum_cons, List.sum_nil, List.length_cons, List.length_nil] at z
      omega
    · simp only [gD, rOk, rOks]
      exact ⟨wd_rep h.1, trivial, trivial, trivial⟩
  | .ts w n b ss, h => by
    simp only [inG] at h
    obtain ⟨a1, a2, a3⟩ := gDs_shw ss h.2.2
    have h1 := int_len h.2.1
    have h0 := int_shw h.2.1
    have z1 := wd_len h.1
    have inner : (toP (sqD b (gDs ss))).showable = true ∧ (toP (sqD b (gDs ss))).shown.length ≤ 200 * szL ss + 3 ∧ rOk (sqD b (gDs ss)) := by
      cases b with
      | true =>
        simp only [sqD, if_true, toP, PyData.showable, PyData.shown, rOk]
        have := tupleText_len_le (PyData.shownAll (toPs (gDs ss)))
        exact ⟨a1, by omega, a3⟩
      | false =>
        simp only [sqD, Bool.false_eq_true, if_false, toP, PyData.showable, PyData.shown, rOk]
        have := listText_len_le (PyData.shownAll (toPs (gDs ss)))
        exact ⟨a1, by omega, a3⟩
    have z := tupleText_len_le [reprText w, PyData.shown (.int n), (toP (sqD b (gDs ss))).shown]
    refine ⟨?_, ?_, ?_⟩
    · simp only [gD, toP, toPs, PyData.showable, PyData.showableAll]
      simp only [PyData.showable] at h0
      rw [h0, inner.1]
      rfl
    · simp only [gD, toP, toPs, PyData.shown, PyData.shownAll, szS] at *
      simp only [List.map_cons, List.map_nil, List.sum_cons, List.sum_nil, List.length_cons, List.length_nil] at z
      omega
    · simp only [gD, rOk, rOks]
      exact ⟨wd_rep h.1, trivial, inner.2.2, trivial⟩
theorem gDs_shw : ∀ ss : List Gp, inGL ss → PyData.showableAll (toPs (gDs ss)) = true ∧ ((PyData.shownAll (toPs (gDs ss))).map (·.length)).sum + 2 * (PyData.shownAll (toPs (gDs ss))).length ≤ 200 * szL ss ∧ rOks (gDs ss)
  | [], _ => by simp [gDs, toPs, PyData.showableAll, PyData.shownAll, szL, rOks]
  | s :: ss, h => by
    simp only [inGL] at h
    obtain ⟨a1, a2, a3⟩ := gD_shw s h.1
    obtain ⟨b1, b2, b3⟩ := gDs_shw ss h.2
    simp only [gDs, toPs, PyData.showableAll, PyData.shownAll, szL, rOks, List.map_cons, List.sum_cons, List.length_cons]
    exact ⟨by rw [a1, b1]; rfl, by omega, a3, b3⟩
end
/-- repr of a history -/
theorem repr_d {ss : List Gp} (hi : inGL ss) (hs : szL ss ≤ 10000) (hd : dpL ss ≤ 30) : ∃ t, strOk t = true ∧ ∀ cs, SpD sRepr [.lst (gDs ss)] cs (.str t) := by
  obtain ⟨a1, a2, a3⟩ := gDs_shw ss hi
  have hp : pur 64 (.lst (gDs ss)) = true := lst_pur (by omega) hs hi
  have z := listText_len_le (PyData.shownAll (toPs (gDs ss)))
  have hl : (shwD (.lst (gDs ss))).length ≤ 16777216 := by
    unfold shwD
    simp only [toP, PyData.shown] at *
    omega
  refine ⟨shwD (.lst (gDs ss)), shw_ok _ a3, fun cs Q X h => ?_⟩
  refine ⟨rfl, hp, ?_, hl, h⟩
  simp only [deref, toP, PyData.showable]
  exact a1
/-! ### what is due -/
def badT (k : Nat) : Gp → Bool
  | .nd _ => false
  | .sh _ => true
  | .ti w _ _ => if w = "link" then decide (0 < k) else true
  | .ts w i _ _ => if w = "repeat" then decide (3 < k) || !(decide (0 ≤ i) && decide (i ≤ 10 ^ 30)) else true
abbrev Er2 := Str × Int
def tooL : Er2 := ("TooLong", 100)
def badS (pos : Nat) : Er2 := ("BadStep", (pos : Nat))
mutual
def chS : Nat → Nat → Gp → Except Er2 Nat
  | _, pos, .nd _ => if pos = 100 then .error tooL else .ok (pos + 1)
  | _, pos, .sh _ => if pos = 100 then .error tooL else .error (badS pos)
  | k, pos, .ti w i j => if pos = 100 then .error tooL else if badT k (.ti w i j) = true then .error (badS pos) else .ok (pos + 1)
  | k, pos, .ts w i b ss => if pos = 100 then .error tooL else if badT k (.ts w i b ss) = true then .error (badS pos) else chL (k + 1) (pos + 1) ss
def chL : Nat → Nat → List Gp → Except Er2 Nat
  | _, pos, [] => .ok pos
  | k, pos, s :: ss => match chS k pos s with
    | .ok p => chL k p ss
    | .error e => .error e
end
def OutE (r : Except Er2 Nat) (cs : Cs) (Q : KD) (X : KX) (f : Nat → D) : Prop := match r with
  | .ok p => Q (f p) cs
  | .error e => X (er e.1 (if e.1 = "TooLong" then "limit" else "pos") (.int e.2)) cs
def isNd : Gp → Bool
  | .nd _ => true
  | _ => false
theorem isi_g {s : Gp} {cs : Cs} : SpD (sIsi .int) [gD s] cs (.bl (isNd s)) := fun Q X h => by
  cases s with
  | nd i => exact h
  | sh o =>
    rcases o with _ | ⟨w, _ | i⟩ <;> exact h
  | ti w i j => exact h
  | ts w i b ss => exact h
def spCTk : G.Spec := fun ds cs Q X => ∃ (s : Gp) (k pos : Nat), ds = [gD s, .int (k : Nat), .int (pos : Nat)] ∧ isNd s = false ∧ inG s ∧ k ≤ 4 ∧ ((badT k s = true ∧ X (er "BadStep" "pos" (.int (pos : Nat))) cs) ∨ (badT k s = false ∧ Q .non cs))
theorem len_t {xs : List D} {cs : Cs} : SpD sLen [.tup xs] cs (.int (xs.length : Nat)) := fun Q X h => by rw [sLen_tup]; exact h
theorem ne_i {i j : Int} {cs : Cs} : SpD sNe [.int i, .int j] cs (.bl (!(i == j))) := fun Q X h => by rw [sNe_i]; exact h
theorem eq_i {i j : Int} {cs : Cs} : SpD sEq [.int i, .int j] cs (.bl (i == j)) := fun Q X h => by rw [sEq_i]; exact h
theorem eq_s {a b : Str} {cs : Cs} (ha : strOk a = true) (hb : strOk b = true) : SpD sEq [.str a, .str b] cs (.bl (a == b)) := fun Q X h => by rw [strE_e ha hb]; exact h
theorem inLR {w : Str} (h : Wd w) : inD (.str w) [.str "link", .str "repeat"] = (decide (w = "link") || decide (w = "repeat")) := by
  simp only [Wd, List.mem_cons, List.mem_nil_iff, or_false] at h
  rcases h with rfl | rfl | rfl | rfl | rfl | rfl <;> decide +kernel
theorem notin_lr {w : Str} {cs : Cs} (h : Wd w) : SpD sNotIn [.str w, .tup [.str "link", .str "repeat"]] cs (.bl (!(decide (w = "link") || decide (w = "repeat")))) := fun Q X k => by
  show flat (.str w) = true ∧ _ ∧ Q (.bl (!inD (.str w) _)) cs
  rw [inLR h]
  exact ⟨rfl, rfl, k⟩
section
variable {σ : Sl} {cs : Cs} {e : E} {a b c : D}
theorem sub0 (h : Ev e σ cs (.tup [a, b, c])) : Ev (.app sIx (.cons e (.cons (.c (.int 0)) .nil))) σ cs a := .app (.two h .con) (ix_d rfl ix3_0)
theorem sub1 (h : Ev e σ cs (.tup [a, b, c])) : Ev (.app sIx (.cons e (.cons (.c (.int 1)) .nil))) σ cs b := .app (.two h .con) (ix_d rfl ix3_1)
theorem sub2 (h : Ev e σ cs (.tup [a, b, c])) : Ev (.app sIx (.cons e (.cons (.c (.int 2)) .nil))) σ cs c := .app (.two h .con) (ix_d rfl ix3_2)
theorem lrT : Ev (.app sTup (.cons (.c (.str "link")) (.cons (.c (.str "repeat")) .nil))) σ cs (.tup [.str "link", .str "repeat"]) := .app (.two .con .con) (tup_d (show 2 ≤ 16777216 by decide))
end
/-- the third item -/
inductive Th where
  | i (j : Int)
  | s (b : Bool) (ss : List Gp)
def thD : Th → D
  | .i j => .int j
  | .s b ss => sqD b (gDs ss)
def mk3 (w : Str) (i : Int) : Th → Gp
  | .i j => .ti w i j
  | .s b ss => .ts w i b ss
def isI : Th → Bool
  | .i _ => true
  | .s _ _ => false
theorem mk3_D {w : Str} {i : Int} {t : Th} : gD (mk3 w i t) = .tup [.str w, .int i, thD t] := by cases t <;> rfl
theorem isi_t {t : Th} {cs : Cs} : SpD (sIsi .int) [thD t] cs (.bl (isI t)) := fun Q X h => by
  cases t with
  | i j => exact h
  | s b ss =>
    show sIsi .int [sqD b (gDs ss)] cs Q X
    rw [isi_sq]
    exact h
theorem bad3 {k : Nat} {w : Str} {i : Int} {t : Th} (hk : k ≤ 4) : badT k (mk3 w i t) = (!(decide (w = "link") || decide (w = "repeat")) || (decide (w = "link") && (decide (0 < k) || !isI t)) || (decide (w = "repeat") && (isI t || (decide (k = 4) || !(decide (0 ≤ i) && decide (i ≤ 10 ^ 30)))))) := by
  have k4 : decide (3 < k) = decide (k = 4) := decide_eq_decide.mpr (by omega)
  have lr : ¬ (("link" : Str) = "repeat") := by decide +kernel
  by_cases h1 : w = "link"
  · subst h1
    cases t <;> simp [mk3, badT, isI, lr]
  · by_cases h2 : w = "repeat"
    · subst h2
      cases t <;> simp [mk3, badT, isI, h1, k4]
    · cases t <;> simp [mk3, badT, isI, h1, h2]
theorem Gp.three (s : Gp) : (∃ i, s = .nd i) ∨ (∃ o, s = .sh o) ∨ ∃ w i t, s = mk3 w i t := by
  cases s with
  | nd i => exact .inl ⟨i, rfl⟩
  | sh o => exact .inr (.inl ⟨o, rfl⟩)
  | ti w i j => exact .inr (.inr ⟨w, i, .i j, rfl⟩)
  | ts w i b ss => exact .inr (.inr ⟨w, i, .s b ss, rfl⟩)
theorem in3 {w : Str} {i : Int} {t : Th} (h : inG (mk3 w i t)) : Wd w ∧ Big i := by
  cases t
  · simp only [mk3, inG] at h
    exact ⟨h.1, h.2.1⟩
  · simp only [mk3, inG] at h
    exact ⟨h.1, h.2.1⟩
/-- the law's and the program's question about tuples: a short one -/
theorem short_q {o : Option (Str × Option Int)} {σ : Sl} {cs : Cs} {e x : E} (h : Ev e σ cs (gD (.sh o))) : Ev (.or (.app sNe (.cons (.app sLen (.cons e .nil)) (.cons (.c (.int 3)) .nil))) x) σ cs (.bl true) := by
  refine .or_t ?_
  rcases o with _ | ⟨w, _ | i⟩
  · exact .app (.two (.app (.one h) len_t) .con) fun Q X k => ne_i _ _ k
  · exact .app (.two (.app (.one h) len_t) .con) fun Q X k => ne_i _ _ k
  · exact .app (.two (.app (.one h) len_t) .con) fun Q X k => ne_i _ _ k
theorem word_q {w : Str} {i : Int} {t : Th} {σ : Sl} {cs : Cs} {e : E} (hw : Wd w) (h : Ev e σ cs (gD (mk3 w i t))) : Ev (.or (.app sNe (.cons (.app sLen (.cons e .nil)) (.cons (.c (.int 3)) .nil))) (.app sNotIn (.cons (.app sIx (.cons e (.cons (.c (.int 0)) .nil))) (.cons (.app sTup (.cons (.c (.str "link")) (.cons (.c (.str "repeat")) .nil))) .nil)))) σ cs (.bl (!(decide (w = "link") || decide (w = "repeat")))) := by
  rw [mk3_D] at h
  exact .or_f (.app (.two (.app (.one h) len_t) .con) fun Q X k => ne_i _ _ k) (.app (.two (sub0 h) lrT) (notin_lr hw))
theorem eq_lit {w : Str} {v : Str} {i : Int} {t : Th} {σ : Sl} {cs : Cs} {e : E} (hw : Wd w) (hv : strOk v = true) (h : Ev e σ cs (gD (mk3 w i t))) : Ev (.app sEq (.cons (.app sIx (.cons e (.cons (.c (.int 0)) .nil))) (.cons (.c (.str v)) .nil))) σ cs (.bl (decide (w = v))) := by
  rw [mk3_D] at h
  refine .app (.two (sub0 h) .con) fun Q X k => eq_s (wd_ok hw) hv _ _ ?_
  have : (w == v) = decide (w = v) := by
    by_cases z : w = v
    · rw [z, decide_eq_true rfl, beq_self_eq_true]
    · rw [decide_eq_false z]
      exact beq_eq_false_iff_ne.mpr z
  rw [this]
  exact k
theorem third_q {w : Str} {i : Int} {t : Th} {σ : Sl} {cs : Cs} {e : E} (h : Ev e σ cs (gD (mk3 w i t))) : Ev (.app (sIsi .int) (.cons (.app sIx (.cons e (.cons (.c (.int 2)) .nil))) .nil)) σ cs (.bl (isI t)) := by
  rw [mk3_D] at h
  exact .app (.one (sub2 h)) isi_t
theorem num_q {w : Str} {i : Int} {t : Th} {σ : Sl} {cs : Cs} {e : E} (h : Ev e σ cs (gD (mk3 w i t))) : Ev (.app sIx (.cons e (.cons (.c (.int 1)) .nil))) σ cs (.int i) := by
  rw [mk3_D] at h
  exact sub1 h
theorem thr_q {w : Str} {i : Int} {t : Th} {σ : Sl} {cs : Cs} {e : E} (h : Ev e σ cs (gD (mk3 w i t))) : Ev (.app sIx (.cons e (.cons (.c (.int 2)) .nil))) σ cs (thD t) := by
  rw [mk3_D] at h
  exact sub2 h
theorem ok_ctk : okFn 3 c_check_tupleX spCTk := by
  rintro ds cs Q X ⟨s, k, pos, rfl, hn, hi, hk, h⟩
  show wpS (.seq c_check_tupleX_2 (.seq c_check_tupleX_4 c_check_tupleX_6)) [some (gD s), some (.int (k : Nat)), some (.int (pos : Nat))] cs _
  refine wpS_seq ?_
  rw [c_check_tupleX_2]
  rcases s.three with ⟨i, rfl⟩ | ⟨o, rfl⟩ | ⟨w, i, t, rfl⟩
  · cases hn
  · refine wpS_ift (short_q (.var rfl)) ?_
    rw [c_check_tupleX_1]
    rcases h with ⟨_, h⟩ | ⟨h, _⟩
    · exact h
    · simp [badT] at h
  obtain ⟨hw, hb⟩ := in3 hi
  rw [bad3 hk] at h
  have ev : Ev (.v 0) [some (gD (mk3 w i t)), some (.int (k : Nat)), some (.int (pos : Nat))] cs (gD (mk3 w i t)) := .var rfl
  refine wpS_if (word_q hw ev) (fun z => ?_) fun z => ?_
  · rw [c_check_tupleX_1]
    rcases h with ⟨_, h⟩ | ⟨h, _⟩
    · exact h
    · rw [z] at h
      simp at h
  rw [z] at h
  refine wpS_skip ?_
  dsimp only
  refine wpS_seq ?_
  rw [c_check_tupleX_4]
  have q1 : Ev (.and (.app sEq (.cons (.app sIx (.cons (.v 0) (.cons (.c (.int 0)) .nil))) (.cons (.c (.str "link")) .nil))) (.or (.app sGt (.cons (.v 1) (.cons (.c (.int 0)) .nil))) (.app sNot (.cons (.app (sIsi .int) (.cons (.app sIx (.cons (.v 0) (.cons (.c (.int 2)) .nil))) .nil)) .nil)))) [some (gD (mk3 w i t)), some (.int (k : Nat)), some (.int (pos : Nat))] cs (.bl (decide (w = "link") && (decide (0 < k) || !isI t))) := by
    refine .and (eq_lit hw ok_lkS ev) fun _ => .or (.app (.two (.var rfl) .con) fun Q X h => ?_) fun _ => .not (third_q ev)
    rw [sGt_i, decide_eq_decide.mpr (show (0 : Int) < ((k : Nat) : Int) ↔ 0 < k by omega)]
    exact h
  refine wpS_if q1 (fun z => ?_) fun z => ?_
  · rw [c_check_tupleX_3]
    rcases h with ⟨_, h⟩ | ⟨h, _⟩
    · exact h
    · rw [z] at h
      simp at h
  rw [z] at h
  refine wpS_skip ?_
  dsimp only
  rw [c_check_tupleX_6]
  have q2 : Ev (.and (.app sEq (.cons (.app sIx (.cons (.v 0) (.cons (.c (.int 0)) .nil))) (.cons (.c (.str "repeat")) .nil))) (.or (.app (sIsi .int) (.cons (.app sIx (.cons (.v 0) (.cons (.c (.int 2)) .nil))) .nil)) (.or (.app sEq (.cons (.v 1) (.cons (.c (.int 4)) .nil))) (.app sNot (.cons (.chain sLe sLe (.c (.int 0)) (.app sIx (.cons (.v 0) (.cons (.c (.int 1)) .nil))) (.c (.int 1000000000000000000000000000000))) .nil))))) [some (gD (mk3 w i t)), some (.int (k : Nat)), some (.int (pos : Nat))] cs (.bl (decide (w = "repeat") && (isI t || (decide (k = 4) || !(decide (0 ≤ i) && decide (i ≤ 10 ^ 30)))))) := by
    refine .and (eq_lit hw ok_rpS ev) fun _ => .or (third_q ev) fun _ => .or (.app (.two (.var rfl) .con) fun Q X h => ?_) fun _ => .not (.chain .con (num_q ev) le_d fun _ => ⟨.con, le_d⟩)
    rw [sEq_i, show (4 : Int) = ((4 : Nat) : Int) from rfl, int_beq]
    exact h
  refine wpS_if q2 (fun z => ?_) fun z => ?_
  · rw [c_check_tupleX_5]
    rcases h with ⟨_, h⟩ | ⟨h, _⟩
    · exact h
    · rw [z] at h
      simp at h
  rw [z] at h
  rcases h with ⟨h, _⟩ | ⟨_, h⟩
  · simp at h
  · exact wpS_skip h
/-! ### check_steps -/
def spCSk : Nat → G.Spec
  | 0 => fun _ _ _ _ => False
  | i + 1 => fun ds cs Q X => ∃ (x : D) (ss : List Gp) (k pos : Nat), ds = [x, .int (k : Nat), .int (pos : Nat)] ∧ (∃ b, x = sqD b (gDs ss)) ∧ k ≤ 4 ∧ inGL ss ∧ dpL ss ≤ i ∧ pos ≤ 100 ∧ OutE (chL k pos ss) cs Q X fun p => .int (p : Nat)
mutual
theorem chS_pos : ∀ (s : Gp) {k pos p : Nat}, pos ≤ 100 → chS k pos s = .ok p → p ≤ 100
  | .nd i, k, pos, p, h, e => by
    simp only [chS] at e
    split at e
    · cases e
    · cases e
      omega
  | .sh o, k, pos, p, h, e => by
    simp only [chS] at e
    split at e <;> cases e
  | .ti w i j, k, pos, p, h, e => by
    simp only [chS] at e
    split at e
    · cases e
    · split at e
      · cases e
      · cases e
        omega
  | .ts w i b ss, k, pos, p, h, e => by
    simp only [chS] at e
    split at e
    · cases e
    · split at e
      · cases e
      · exact chL_pos ss (by omega) e
theorem chL_pos : ∀ (ss : List Gp) {k pos p : Nat}, pos ≤ 100 → chL k pos ss = .ok p → p ≤ 100
  | [], k, pos, p, h, e => by
    simp only [chL] at e
    cases e
    exact h
  | s :: ss, k, pos, p, h, e => by
    simp only [chL] at e
    split at e
    · rename_i q hq
      exact chL_pos ss (chS_pos s h hq) e
    · cases e
end
/-- the walk over steps: what stands from here on -/
theorem forG_rest {i : Nat} {grd : Cs → Prop} {body : Sl → Cs → Ends → Prop} {K : Ends} (I : List Gp → Sl → Cs → Prop)
    (hg : ∀ ss σ cs, I ss σ cs → grd cs)
    (hs : ∀ s ss σ cs, I (s :: ss) σ cs → ∀ K', (∀ σ' cs', I ss σ' cs' → K'.nx σ' cs') → K'.rt = K.rt → K'.ex = K.ex → body (σ.set i (some (gD s))) cs K')
    (hd : ∀ σ cs, I [] σ cs → K.nx σ cs) : ∀ (ss : List Gp) {σ : Sl} {cs : Cs}, I ss σ cs → forL (.nm i) grd body K (gDs ss) σ cs
  | [], σ, cs, h => ⟨hg _ _ _ h, hd _ _ h⟩
  | s :: ss, σ, cs, h => by
    rw [gDs]
    refine ⟨hg _ _ _ h, ?_⟩
    exact hs s ss σ cs h _ (fun σ' cs' h' => forG_rest I hg hs hd ss h') rfl rfl
theorem er_l : (if tooL.1 = "TooLong" then ("limit" : Str) else "pos") = "limit" := by decide +kernel
theorem er_p {pos : Nat} : (if (badS pos).1 = "TooLong" then ("limit" : Str) else "pos") = "pos" := by
  show (if ("BadStep" : Str) = "TooLong" then ("limit" : Str) else "pos") = "pos"
  decide +kernel
theorem ok_csk (i : Nat) : okFn 4 (c_check_stepsX (spCSk i) spCTk) (spCSk (i + 1)) := by
  rintro ds cs Q X ⟨x, ss, k, pos, rfl, ⟨b, rfl⟩, hk, hin, hd, hp, hQ⟩
  show wpS (.seq (c_check_stepsX_8 (spCSk i) spCTk) (c_check_stepsX_9 (spCSk i) spCTk)) [some (sqD b (gDs ss)), some (.int (k : Nat)), some (.int (pos : Nat)), none] cs _
  refine wpS_seq ?_
  rw [c_check_stepsX_8]
  refine wpS_for (.one (.var rfl)) ?_
  refine iSeq_q (sqD_q (b := b)) (forG_rest (fun rest σ c => c = cs ∧ ∃ (q : Nat) (a : Option D), σ = [some (sqD b (gDs ss)), some (.int (k : Nat)), some (.int (q : Nat)), a] ∧ inGL rest ∧ dpL rest ≤ i ∧ q ≤ 100 ∧ OutE (chL k q rest) cs Q X fun p => .int (p : Nat)) (fun _ _ _ h => by rw [h.1]; exact grdL_self) ?_ ?_ ss ⟨rfl, pos, _, rfl, hin, hd, hp, hQ⟩)
  · rintro s rest σ c ⟨rfl, q, a, rfl, hin, hd, hq, hQ⟩ K' h1 h2 h3
    simp only [inGL] at hin
    simp only [dpL] at hd
    simp only [List.set]
    refine wpS_seq ?_
    rw [c_check_stepsX_2]
    by_cases q100 : q = 100
    · have hX : X (er "TooLong" "limit" (.int 100)) c := by
        have : chS k q s = .error tooL := by cases s <;> simp [chS, q100]
        simp only [chL, this, OutE] at hQ
        rw [er_l] at hQ
        exact hQ
      refine wpS_ift (.app (.two (.var rfl) .con) fun Q X h => by rw [sEq_i, q100]; exact h) ?_
      rw [c_check_stepsX_1]
      simp only [wpS, wpE, wpEs]
      rw [h3]
      exact hX
    refine wpS_iff (.app (.two (.var rfl) .con) fun Q X h => by rw [sEq_i, show (((q : Nat) : Int) == 100) = false by rw [beq_eq_false_iff_ne]; omega]; exact h) (wpS_skip ?_)
    dsimp only
    refine wpS_seq ?_
    rw [c_check_stepsX_3]
    refine wpS_asg (d := .int ((q + 1 : Nat) : Nat)) (.app (.two (.var rfl) .con) fun Q X h => by rw [sIAdd_e]; exact h) rfl ?_
    simp only [List.set]
    rw [c_check_stepsX_7]
    have isi : Ev (.app sNot (.cons (.app (sIsi .int) (.cons (.v 3) .nil)) .nil)) [some (sqD b (gDs ss)), some (.int (k : Nat)), some (.int ((q + 1 : Nat) : Nat)), some (gD s)] c (.bl (!isNd s)) := .not (.app (.one (.var rfl)) isi_g)
    have nbad : badT k s = true → isNd s = false → X (er "BadStep" "pos" (.int (q : Nat))) c := fun hb hn => by
      have : chS k q s = .error (badS q) := by
        cases s with
        | nd i => cases hn
        | sh o => simp only [chS, if_neg q100]
        | ti w i j => simp only [chS, if_neg q100, if_pos hb]
        | ts w i b ss => simp only [chS, if_neg q100, if_pos hb]
      simp only [chL, this, OutE] at hQ
      rw [er_p] at hQ
      exact hQ
    refine wpS_if isi (fun z => ?_) fun z => ?_
    rotate_left
    · cases s with
      | nd j =>
        simp only [chL, chS, if_neg q100] at hQ
        exact wpS_skip (h1 _ _ ⟨rfl, q + 1, _, rfl, hin.2, by omega, by omega, hQ⟩)
      | sh o => cases z
      | ti w i j => cases z
      | ts w i b ss => cases z
    have hn : isNd s = false := by simpa using z
    refine wpS_seq ?_
    rw [c_check_stepsX_4]
    simp only [wpS, wpE, wpEs, getV, sSub_i]
    rw [show ((q + 1 : Nat) : Int) - 1 = ((q : Nat) : Int) by omega]
    refine ⟨s, k, q, rfl, hn, hin.1, hk, ?_⟩
    cases hb : badT k s with
    | true =>
      refine .inl ⟨rfl, ?_⟩
      rw [h3]
      exact nbad hb hn
    | false =>
    refine .inr ⟨rfl, ?_⟩
    dsimp only
    rw [c_check_stepsX_6]
    rcases s.three with ⟨j, rfl⟩ | ⟨o, rfl⟩ | ⟨w, j, t, rfl⟩
    · cases hn
    · simp [badT] at hb
    obtain ⟨hw, hbg⟩ := in3 hin.1
    have ev : Ev (.v 3) [some (sqD b (gDs ss)), some (.int (k : Nat)), some (.int ((q + 1 : Nat) : Nat)), some (gD (mk3 w j t))] c (gD (mk3 w j t)) := .var rfl
    refine wpS_if (eq_lit hw ok_rpS ev) (fun z => ?_) fun z => ?_
    rotate_left
    · have hwl : w = "link" := by
        rw [bad3 hk] at hb
        simp only [z, Bool.or_false, Bool.false_and, Bool.or_eq_false_iff, Bool.not_eq_false', decide_eq_true_eq] at hb
        exact hb.1
      refine wpS_skip (h1 _ _ ⟨rfl, q + 1, _, rfl, hin.2, by omega, by omega, ?_⟩)
      cases t with
      | i j2 =>
        have hb2 : badT k (.ti w j j2) = false := hb
        simp only [chL, mk3, chS, if_neg q100, hb2, Bool.false_eq_true, if_false] at hQ
        exact hQ
      | s b2 us =>
        subst hwl
        simp [mk3, badT, show ¬ (("link" : Str) = "repeat") by decide +kernel] at hb
    · have hwr : w = "repeat" := of_decide_eq_true z
      cases t with
      | i j2 =>
        subst hwr
        simp [mk3, badT, show ¬ (("repeat" : Str) = "link") by decide +kernel] at hb
      | s b2 us =>
        have hb2 : badT k (.ts w j b2 us) = false := hb
        simp only [chL, mk3, chS, if_neg q100, hb2, Bool.false_eq_true, if_false] at hQ
        have k3 : k ≤ 3 := by
          subst hwr
          simp [badT] at hb2
          omega
        simp only [mk3, dpS] at hd
        have hin1 := hin.1
        simp only [mk3, inG] at hin1
        rw [c_check_stepsX_5, wpS_asgE, wpE_app]
        refine (Evs.three (d := sqD b2 (gDs us)) (d' := .int ((k + 1 : Nat) : Nat)) (d2 := .int ((q + 1 : Nat) : Nat)) (thr_q (t := .s b2 us) ev) (.app (.two (.var rfl) .con) add_d) (.var rfl)) _ _ ?_
        obtain ⟨i, rfl⟩ : ∃ i', i = i' + 1 := ⟨i - 1, by omega⟩
        refine ⟨_, us, k + 1, q + 1, rfl, ⟨b2, rfl⟩, by omega, hin1.2.2, by omega, by omega, ?_⟩
        cases he : chL (k + 1) (q + 1) us with
        | ok p =>
          rw [he] at hQ
          simp only [OutE]
          refine bindK_of (σ' := [some (sqD b (gDs ss)), some (.int (k : Nat)), some (.int (p : Nat)), some (gD (mk3 w j (.s b2 us)))]) rfl (h1 _ _ ⟨rfl, p, _, rfl, hin.2, by omega, chL_pos us (by omega) he, hQ⟩)
        | error e =>
          rw [he] at hQ
          show K'.ex _ _ c
          rw [h3]
          exact hQ
  · rintro σ c ⟨rfl, q, a, rfl, _, _, _, hQ⟩
    rw [c_check_stepsX_9]
    exact wpS_ret (.var rfl) hQ
def spCHk : G.Spec := fun ds cs Q X => ∃ (x : D) (ss : List Gp), ds = [x] ∧ (∃ b, x = sqD b (gDs ss)) ∧ inGL ss ∧ dpL ss ≤ 30 ∧ OutE (chL 0 0 ss) cs Q X fun _ => .non
theorem ok_chk : okFn 1 (c_check_history (spCSk 32)) spCHk := by
  rintro ds cs Q X ⟨x, ss, rfl, hx, hin, hd, hQ⟩
  show wpS (c_check_history_1 (spCSk 32)) [some x] cs _
  rw [c_check_history_1]
  simp only [wpS, wpE, wpEs, getV]
  refine ⟨x, ss, 0, 0, rfl, hx, by decide, hin, (show dpL ss ≤ 31 by omega), by decide, ?_⟩
  cases h : chL 0 0 ss with
  | ok p =>
    rw [h] at hQ
    exact hQ
  | error e =>
    rw [h] at hQ
    exact hQ
end K11

namespace K11
open G
open PySem (Str)
open PySem
/-! ### the walk of the law -/
abbrev Stk := List (Gp × Nat)
def enc (q : Gp × Nat) : D := .tup [gD q.1, .int (q.2 : Nat)]
def stk : Stk → Nat → Except Er2 Nat
  | [], pos => .ok pos
  | (s, k) :: r, pos => match chS k pos s with
    | .ok p => stk r p
    | .error e => .error e
theorem stk_app {k : Nat} {r : Stk} : ∀ (us : List Gp) (pos : Nat), stk (us.map (fun u => (u, k)) ++ r) pos = match chL k pos us with
    | .ok p => stk r p
    | .error e => .error e
  | [], pos => by simp [chL]
  | u :: us, pos => by
    simp only [List.map_cons, List.cons_append, stk, chL]
    cases chS k pos u with
    | ok p => exact stk_app us p
    | error e => rfl
def dueE : Except Er2 Nat → D
  | .ok _ => .tup [.str "", .non]
  | .error e => .tup [.str e.1, .int e.2]
def spFt : G.Spec := fun ds cs Q _ => ∃ ss : List Gp, ds = [.lst (gDs ss)] ∧ inGL ss ∧ dpL ss ≤ 20 ∧ szL ss ≤ 8000 ∧ Q (dueE (chL 0 0 ss)) cs
/-- what lies on the stack -/
structure SOk (L : Stk) : Prop where
  a : ∀ q ∈ L, inG q.1 ∧ q.2 ≤ 4 ∧ dpS q.1 ≤ 20
  b : (L.map fun q => szS q.1).sum ≤ 8000
theorem enc_pur {q : Gp × Nat} (h : inG q.1) (hd : dpS q.1 ≤ 20) (hs : szS q.1 ≤ 8000) : pur 63 (enc q) = true := pur_tup2 (gD_pur 62 q.1 (by omega) (by omega) h) pur_int
theorem sum_len : ∀ L : Stk, L.length ≤ (L.map fun q => szS q.1).sum
  | [] => by simp
  | q :: L => by
    have := sum_len L
    have := szS_pos q.1
    simp
    omega
theorem sum_mem : ∀ {L : Stk} {q : Gp × Nat}, q ∈ L → szS q.1 ≤ (L.map fun q => szS q.1).sum
  | q' :: L, q, h => by
    rcases List.mem_cons.mp h with rfl | h
    · simp
    · have := sum_mem h
      simp
      omega
theorem SOk.pur {L : Stk} (h : SOk L) : G.pur 64 (.lst (L.reverse.map enc)) = true := by
  have l := sum_len L
  have b := h.b
  show (decide ((L.reverse.map enc).length ≤ 16777216) && purs 63 (L.reverse.map enc)) = true
  rw [purs_of fun x hx => ?_, decide_eq_true (show _ ≤ 16777216 by rw [List.length_map, List.length_reverse]; omega)]
  · rfl
  · obtain ⟨q, hq, rfl⟩ := List.mem_map.mp hx
    have hq := List.mem_reverse.mp hq
    obtain ⟨h1, h2, h3⟩ := h.a q hq
    exact enc_pur h1 h3 (Nat.le_trans (sum_mem hq) b)
theorem ne_emp {m : Nat} {xs : List D} {cs : Cs} (hc : cs m = some (.lst xs)) (hp : G.pur 64 (.lst xs) = true) : SpD sNe [.ref m, .lst []] cs (.bl (!xs.isEmpty)) := fun Q X h => by
  show G.pur 64 (deref cs (.ref m)) = true ∧ _ ∧ Q (.bl (!eqD (deref cs (.ref m)) (.lst []))) cs
  have e : deref cs (.ref m) = .lst xs := by simp only [deref, hc]
  rw [e]
  refine ⟨hp, rfl, ?_⟩
  have : eqD (.lst xs) (.lst []) = xs.isEmpty := by cases xs <;> rfl
  rw [this]
  exact h
theorem pop_d {m : Nat} {xs : List D} {y : D} {cs : Cs} {Q : KD} {X : KX} (hc : cs m = some (.lst (xs ++ [y]))) (hQ : Q y (put cs m (.lst xs))) : sPop [.ref m] cs Q X := by
  refine ⟨m, xs ++ [y], y, rfl, hc, by simp, ?_⟩
  rw [List.dropLast_concat]
  exact hQ
theorem pow30 {σ : Sl} {cs : Cs} : Ev (.app sPow (.cons (.c (.int 10)) (.cons (.c (.int 30)) .nil))) σ cs (.int (10 ^ 30)) := .app (.two .con .con) fun Q X h => ⟨powOk_c (by decide), h⟩
theorem rev_map {us : List Gp} {k : Nat} : (gDs us).reverse = us.reverse.map gD := by rw [gDs_map, List.map_reverse]
theorem sz_map {k : Nat} : ∀ us : List Gp, ((us.map fun u => (u, k)).map fun q : Gp × Nat => szS q.1).sum = szL us
  | [] => rfl
  | s :: us => by simp only [List.map_cons, List.sum_cons, szL]; rw [sz_map us]
theorem ok_ft : okFnL 6 c_l_fault spFt := by
  rintro ds cs Q X ⟨ss, rfl, hin, hd, hs, hQ⟩
  show wpS (.seq c_l_fault_1 (.seq c_l_fault_15 c_l_fault_16)) [some (.lst (gDs ss)), none, none, none, none, none] cs _
  refine wpS_seq ?_
  have ll := szL_len ss
  rw [c_l_fault_1, wpS_asgE, wpE_app, wpEs_cons, wpE_comp]
  refine (Evs.one (d := .lst (ss.reverse.map gD)) (.app (.one (.var rfl)) fun Q X h => ⟨_, _, rfl, .inr ⟨rfl, by rw [rev_map (k := 0)]; exact h⟩⟩)) _ _ ?_
  refine iSeq_e (.inl rfl) ?_
  refine comp_of gD (fun _ => true) (fun s => enc (s, 0)) trivial _ [] (fun s hs => ⟨_, rfl, fun K hK => by rw [wpE_c]; exact hK, fun _ K hK => (Ev.app (.two (.var (i := 1) rfl) .con) (tup_d (show 2 ≤ 16777216 by decide))) _ _ hK⟩) (show 0 + _ ≤ 16777216 by simp; omega) ?_
  rw [if_pos rfl]
  intro m hm
  rw [List.nil_append, show (ss.reverse.filter fun _ => true) = ss.reverse from List.filter_eq_self.mpr fun _ _ => rfl]
  refine (Evs.one (d := .int 0) .con) _ _ ?_
  refine ⟨show 2 ≤ 16777216 by decide, ?_⟩
  refine bindK_of rfl ?_
  simp only [List.set]
  have e0 : ss.reverse.map (fun s => enc (s, 0)) = ((ss.map fun u => (u, 0)).reverse).map enc := by
    rw [← List.map_reverse, List.map_map]
    rfl
  rw [e0]
  have s0 : SOk (ss.map fun u => (u, 0)) := ⟨fun q hq => by
    obtain ⟨u, hu, rfl⟩ := List.mem_map.mp hq
    exact ⟨inGL_mem.mp hin u hu, Nat.zero_le _, Nat.le_trans (dpL_mem hu) hd⟩, by
    have : ((ss.map fun u => (u, 0)).map fun q : Gp × Nat => szS q.1).sum = szL ss := by
      clear e0 ll hs hd hin hQ
      induction ss with
      | nil => rfl
      | cons s ss ih => simp only [List.map_cons, List.sum_cons, szL]; rw [ih]
    rw [this]
    exact hs⟩
  have d0 : stk (ss.map fun u => (u, 0)) 0 = chL 0 0 ss := by
    have := stk_app (k := 0) (r := []) ss 0
    rw [List.append_nil] at this
    rw [this]
    cases chL 0 0 ss <;> rfl
  rw [← d0] at hQ
  generalize (ss.map fun u => (u, 0)) = L0 at s0 hQ
  refine wpS_seq ?_
  rw [c_l_fault_15]
  refine ⟨8001, whl_inv (fun n σ c => ∃ (L : Stk) (m pos : Nat) (a1 a4 a5 : Option D), n = (L.map fun q => szS q.1).sum ∧ σ = [some (.lst (gDs ss)), a1, some (.ref m), some (.int (pos : Nat)), a4, a5] ∧ SOk L ∧ Q (dueE (stk L pos)) cs ∧ Le cs c ∧ cs m = none ∧ c m = some (.lst (L.reverse.map enc))) ?_ 8001 _ _ _ (Nat.lt_succ_of_le s0.b) ⟨L0, m, 0, _, _, _, rfl, rfl, s0, hQ, (Le.refl cs).put hm, hm, put_same⟩⟩
  clear s0 hQ e0 hm
  rintro n σ c ⟨L, m, pos, a1, a4, a5, rfl, rfl, so, hQ, le, hm, hc⟩
  refine ⟨!(L.reverse.map enc).isEmpty, fun Q X h => (Ev.app (.two (.var (i := 2) rfl) (.app .nil (list_d (show 0 ≤ 16777216 by decide)))) (ne_emp hc so.pur)) _ _ h, fun hb => ?_, fun hb K' n1 n2 n3 n4 n5 => ?_⟩
  · have : L = [] := by
      cases L with
      | nil => rfl
      | cons q L => simp at hb
    subst this
    dsimp only
    rw [c_l_fault_16]
    exact wpS_ret (.app (.two .con .con) (tup_d (show 2 ≤ 16777216 by decide))) ⟨cs, le, hQ⟩
  cases L with
  | nil => simp at hb
  | cons q L =>
  obtain ⟨s, k⟩ := q
  have rt : ∀ d, Q d cs → ∀ c', Le cs c' → K'.rt d c' := fun d h c' l => by rw [n4]; exact ⟨cs, l, h⟩
  clear hb n2 n3 n4 n5
  obtain ⟨hs, hk, hd⟩ := so.a (s, k) List.mem_cons_self
  have so' : SOk L := ⟨fun q hq => so.a q (List.mem_cons_of_mem _ hq), by have := so.b; simp at this; omega⟩
  have sb := so.b
  simp only [List.map_cons, List.sum_cons] at sb
  rw [List.reverse_cons, List.map_append, List.map_cons, List.map_nil] at hc
  refine wpS_seq ?_
  rw [c_l_fault_2, wpS_asgE, wpE_app]
  refine (Evs.one (d := .ref m) (.var rfl)) _ _ ?_
  refine pop_d hc ?_
  refine bindK_of (σ' := [some (.lst (gDs ss)), some (gD s), some (.ref m), some (.int (pos : Nat)), some (.int (k : Nat)), a5]) rfl ?_
  have hc2 : put c m (.lst (L.reverse.map enc)) m = some (.lst (L.reverse.map enc)) := put_same
  have le2 : Le cs (put c m (.lst (L.reverse.map enc))) := le.put hm
  generalize put c m (.lst (L.reverse.map enc)) = c2 at hc2 le2
  clear hc le c
  dsimp only
  refine wpS_seq ?_
  rw [c_l_fault_4]
  by_cases p100 : pos = 100
  · have : chS k pos s = .error tooL := by cases s <;> simp [chS, p100]
    simp only [stk, this] at hQ
    refine wpS_ift (.app (.two (.var rfl) .con) fun Q X h => by rw [sEq_i, p100]; exact h) ?_
    rw [c_l_fault_3]
    exact wpS_ret (.app (.two .con .con) (tup_d (show 2 ≤ 16777216 by decide))) (rt _ hQ _ le2)
  refine wpS_iff (.app (.two (.var rfl) .con) fun Q X h => by rw [sEq_i, show (((pos : Nat) : Int) == 100) = false by rw [beq_eq_false_iff_ne]; omega]; exact h) (wpS_skip ?_)
  dsimp only
  -- behind the step
  have go : ∀ (L' : Stk) (m' : Nat) (c' : Cs) (b5 : Option D), (L'.map fun q => szS q.1).sum < szS s + (L.map fun q => szS q.1).sum → SOk L' → Q (dueE (stk L' (pos + 1))) cs → Le cs c' → cs m' = none → c' m' = some (.lst (L'.reverse.map enc)) →
      wpS c_l_fault_14 [some (.lst (gDs ss)), some (gD s), some (.ref m'), some (.int (pos : Nat)), some (.int (k : Nat)), b5] c' K' := fun L' m' c' b5 h1 h2 h3 h4 h5 h6 => by
    rw [c_l_fault_14]
    refine wpS_asg (d := .int ((pos + 1 : Nat) : Nat)) (.app (.two (.var rfl) .con) add_d) rfl ?_
    exact n1 _ _ _ (by simpa using h1) ⟨L', m', pos + 1, _, _, _, rfl, rfl, h2, h3, h4, h5, h6⟩
  have sp := szS_pos s
  refine wpS_seq ?_
  rw [c_l_fault_13]
  refine wpS_if (.not (.app (.one (.var rfl)) isi_g)) (fun z => ?_) fun z => ?_
  rotate_left
  · cases s with
    | nd j =>
      simp only [stk, chS, if_neg p100] at hQ
      exact wpS_skip (go L m c2 _ (by omega) so' hQ le2 hm hc2)
    | sh o => cases z
    | ti w i j => cases z
    | ts w i b ss => cases z
  have hn : isNd s = false := by simpa using z
  have nbad : badT k s = true → Q (.tup [.str "BadStep", .int (pos : Nat)]) cs := fun hb => by
    have : chS k pos s = .error (badS pos) := by
      cases s with
      | nd i => cases hn
      | sh o => simp only [chS, if_neg p100]
      | ti w i j => simp only [chS, if_neg p100, if_pos hb]
      | ts w i b ss => simp only [chS, if_neg p100, if_pos hb]
    simp only [stk, this] at hQ
    exact hQ
  refine wpS_seq ?_
  rw [c_l_fault_6]
  rcases s.three with ⟨j, rfl⟩ | ⟨o, rfl⟩ | ⟨w, j, t, rfl⟩
  · cases hn
  · refine wpS_ift (short_q (.var rfl)) ?_
    rw [c_l_fault_5]
    exact wpS_ret (.app (.two .con (.var rfl)) (tup_d (show 2 ≤ 16777216 by decide))) (rt _ (nbad rfl) _ le2)
  obtain ⟨hw, hbg⟩ := in3 hs
  rw [bad3 hk] at nbad
  have ev : Ev (.v 1) [some (.lst (gDs ss)), some (gD (mk3 w j t)), some (.ref m), some (.int (pos : Nat)), some (.int (k : Nat)), a5] c2 (gD (mk3 w j t)) := .var rfl
  refine wpS_if (word_q hw ev) (fun z1 => ?_) fun z1 => ?_
  · rw [c_l_fault_5]
    exact wpS_ret (.app (.two .con (.var rfl)) (tup_d (show 2 ≤ 16777216 by decide))) (rt _ (nbad (by rw [z1]; rfl)) _ le2)
  refine wpS_skip ?_
  dsimp only
  rw [c_l_fault_12]
  refine wpS_if (eq_lit hw ok_lkS ev) (fun z2 => ?_) fun z2 => ?_
  · -- a link
    rw [c_l_fault_8]
    have q1 : Ev (.or (.app sGt (.cons (.v 4) (.cons (.c (.int 0)) .nil))) (.app sNot (.cons (.app (sIsi .int) (.cons (.app sIx (.cons (.v 1) (.cons (.c (.int 2)) .nil))) .nil)) .nil))) [some (.lst (gDs ss)), some (gD (mk3 w j t)), some (.ref m), some (.int (pos : Nat)), some (.int (k : Nat)), a5] c2 (.bl (decide (0 < k) || !isI t)) :=
      .or (.app (.two (.var rfl) .con) fun Q X h => by rw [sGt_i, decide_eq_decide.mpr (show (0 : Int) < ((k : Nat) : Int) ↔ 0 < k by omega)]; exact h) fun _ => .not (third_q ev)
    refine wpS_if q1 (fun z3 => ?_) fun z3 => ?_
    · rw [c_l_fault_7]
      exact wpS_ret (.app (.two .con (.var rfl)) (tup_d (show 2 ≤ 16777216 by decide))) (rt _ (nbad (by rw [z2, z3]; simp)) _ le2)
    refine wpS_skip ?_
    have hwl : w = "link" := of_decide_eq_true z2
    subst hwl
    have i1 : isI t = true := by
      simp at z3
      exact z3.2
    have k0 : ¬ 0 < k := by
      simp at z3
      omega
    cases t with
    | s b us => cases i1
    | i j2 =>
      refine go L m c2 _ (by omega) so' ?_ le2 hm hc2
      simp only [stk, mk3, chS, if_neg p100, badT, if_true, decide_eq_false k0, Bool.false_eq_true, if_false] at hQ
      exact hQ
  · -- a round
    have hwr : w = "repeat" := by
      have z1' : (decide (w = "link") || decide (w = "repeat")) = true := by
        cases q : (decide (w = "link") || decide (w = "repeat")) with
        | true => rfl
        | false => rw [q] at z1; cases z1
      rw [z2, Bool.false_or] at z1'
      exact of_decide_eq_true z1'
    refine wpS_seq ?_
    rw [c_l_fault_10]
    have q1 : Ev (.or (.app (sIsi .int) (.cons (.app sIx (.cons (.v 1) (.cons (.c (.int 2)) .nil))) .nil)) (.or (.app sGt (.cons (.v 4) (.cons (.c (.int 3)) .nil))) (.app sNot (.cons (.chain sLe sLe (.c (.int 0)) (.app sIx (.cons (.v 1) (.cons (.c (.int 1)) .nil))) (.app sPow (.cons (.c (.int 10)) (.cons (.c (.int 30)) .nil)))) .nil)))) [some (.lst (gDs ss)), some (gD (mk3 w j t)), some (.ref m), some (.int (pos : Nat)), some (.int (k : Nat)), a5] c2 (.bl (isI t || (decide (k = 4) || !(decide (0 ≤ j) && decide (j ≤ 10 ^ 30))))) :=
      .or (third_q ev) fun _ => .or (.app (.two (.var rfl) .con) fun Q X h => by rw [sGt_i, decide_eq_decide.mpr (show (3 : Int) < ((k : Nat) : Int) ↔ k = 4 by omega)]; exact h) fun _ => .not (.chain .con (num_q ev) le_d fun _ => ⟨pow30, le_d⟩)
    refine wpS_if q1 (fun z3 => ?_) fun z3 => ?_
    · rw [c_l_fault_9]
      refine wpS_ret (.app (.two .con (.var rfl)) (tup_d (show 2 ≤ 16777216 by decide))) (rt _ (nbad ?_) _ le2)
      rw [z3, decide_eq_true hwr]
      simp
    refine wpS_skip ?_
    dsimp only
    cases t with
    | i j2 => simp [isI] at z3
    | s b us =>
      have k3 : ¬ 3 < k := by
        simp at z3
        omega
      simp only [mk3, inG] at hs
      simp only [mk3, dpS] at hd
      simp only [mk3, szS] at sb sp
      rw [c_l_fault_11, wpS_asgE, wpE_app, wpEs_cons, wpE]
      have lus := szL_len us
      simp only [getV, wpEs_cons]
      rw [wpE_comp, wpEs_cons]
      have rv : ∃ x, isSeq x (us.reverse.map gD) ∧ Ev (.app sRevQ (.cons (.app sIx (.cons (.v 1) (.cons (.c (.int 2)) .nil))) .nil)) [some (.lst (gDs ss)), some (gD (mk3 w j (.s b us))), some (.ref m), some (.int (pos : Nat)), some (.int (k : Nat)), a5] c2 x := by
        cases b with
        | true => exact ⟨.tup (us.reverse.map gD), .inr rfl, .app (.one (thr_q (t := .s true us) ev)) fun Q X h => ⟨_, gDs us, rfl, .inl ⟨rfl, by rw [rev_map (k := 0)]; exact h⟩⟩⟩
        | false => exact ⟨.lst (us.reverse.map gD), .inl rfl, .app (.one (thr_q (t := .s false us) ev)) fun Q X h => ⟨_, gDs us, rfl, .inr ⟨rfl, by rw [rev_map (k := 0)]; exact h⟩⟩⟩
      obtain ⟨x, hx, ex⟩ := rv
      refine ex _ _ ?_
      rw [wpEs_nil]
      refine iSeq_e hx ?_
      refine comp_of gD (fun _ => true) (fun s => enc (s, k + 1)) (grdS hx) _ [] (fun s hs => ⟨_, rfl, fun K hK => by rw [wpE_c]; exact hK, fun _ K hK => (Ev.app (d := enc (s, k + 1)) (.two (d' := .int ((k + 1 : Nat) : Nat)) (.var (i := 5) rfl) (.app (.two (.var (i := 4) rfl) .con) add_d)) (tup_d (show 2 ≤ 16777216 by decide))) _ _ hK⟩) (show 0 + _ ≤ 16777216 by simp; omega) ?_
      rw [if_neg Bool.false_ne_true, List.nil_append, show (us.reverse.filter fun _ => true) = us.reverse from List.filter_eq_self.mpr fun _ _ => rfl, wpEs_nil]
      have lL := sum_len L
      refine ⟨.ref m, .lst _, L.reverse.map enc, us.reverse.map (fun s => enc (s, k + 1)), rfl, by simp only [getL, hc2], rfl, by simp; omega, fun m' hm' => ?_⟩
      refine bindK_of rfl ?_
      simp only [List.set]
      have hm2 := le2.none hm'
      have e1 : L.reverse.map enc ++ us.reverse.map (fun s => enc (s, k + 1)) = ((us.map fun u => (u, k + 1)) ++ L).reverse.map enc := by
        rw [List.reverse_append, List.map_append, ← List.map_reverse, List.map_map]
        rfl
      have esz : ((us.map fun u => (u, k + 1)).map fun q : Gp × Nat => szS q.1).sum = szL us := by
        exact sz_map us
      refine go ((us.map fun u => (u, k + 1)) ++ L) m' _ _ ?_ ⟨fun q hq => ?_, ?_⟩ ?_ (le2.put hm2) hm2 (by rw [put_same, e1])
      · rw [List.map_append, List.sum_append, esz]
        simp only [mk3, szS]
        omega
      · rcases List.mem_append.mp hq with hq | hq
        · obtain ⟨u, hu, rfl⟩ := List.mem_map.mp hq
          have := dpL_mem hu
          exact ⟨inGL_mem.mp hs.2.2 u hu, by show k + 1 ≤ 4; omega, by show dpS u ≤ 20; omega⟩
        · exact so'.a q hq
      · rw [List.map_append, List.sum_append, esz]
        omega
      · rw [stk_app]
        have hb : badT k (.ts w j b us) = false := by
          have : badT k (.ts w j b us) = _ := bad3 (w := w) (i := j) (t := .s b us) hk
          rw [this]
          have e3 : decide (w = "repeat") = true := decide_eq_true hwr
          rw [z3, z2, e3]
          rfl
        simp only [stk, mk3, chS, if_neg p100, hb, Bool.false_eq_true, if_false] at hQ
        exact hQ
end K11

namespace K11
open G
open PySem (Str)
open PySem
/-- steps that a fault is made of -/
def Fit : Gp → Prop
  | .nd _ => True
  | .sh _ => False
  | .ti w _ _ => w = "link"
  | .ts w _ _ _ => w ≠ "link"
/-- what comes of a step -/
def Odd (s s' : Gp) : Prop := inG s' ∧ dpS s' ≤ dpS s + 1 ∧ szS s' ≤ 2 * szS s + 1
def spOddS : G.Spec := fun ds cs Q _ => ∃ (n : Nat) (s : Gp), ds = [.ref n, gD s] ∧ cs n = some .drw ∧ inG s ∧ Fit s ∧ szS s ≤ 4000 ∧ ∀ s', Odd s s' → Q (gD s') cs
theorem big1 : Big (10 ^ 30) := by unfold Big; decide
theorem big2 : Big (10 ^ 30 + 1) := by unfold Big; decide
theorem bigN {i : Int} (h : Big i) : Big (0 - i) := by unfold Big at *; omega
theorem bigc {i : Int} (h : i.natAbs < 1000) : Big i := by unfold Big; omega
theorem wF : Wd "find" := by simp [Wd]
theorem wK : Wd "Link" := by simp [Wd]
theorem wO : Wd "rounds" := by simp [Wd]
theorem wE : Wd "" := by simp [Wd]
/-- an item of a list of steps -/
theorem of_g {n : Nat} {xs : List D} {P : Gp → Prop} {cs : Cs} {Q : KD} {X : KX} (hc : cs n = some .drw) (h0 : xs ≠ []) (h1 : xs.length ≤ 16777216) (hx : ∀ d ∈ xs, ∃ s, d = gD s ∧ P s) (hQ : ∀ s, P s → Q (gD s) cs) : spOf [.ref n, .lst xs] cs Q X := by
  rw [spOf_e]
  refine ⟨hc, (fun s z => by cases z), xs, rfl, h0, h1, fun d hd => ?_⟩
  obtain ⟨s, rfl, hs⟩ := hx d hd
  exact hQ s hs
theorem all_nil {P : D → Prop} : ∀ d ∈ ([] : List D), P d := fun _ h => by cases h
theorem all_cons {P : D → Prop} {x : D} {xs : List D} (h : P x) (hs : ∀ d ∈ xs, P d) : ∀ d ∈ x :: xs, P d := fun d hd => by
  rcases List.mem_cons.mp hd with rfl | hd
  · exact h
  · exact hs d hd
section
variable {σ : Sl} {cs : Cs} {a b c : E} {x y z : D}
theorem tp0 : Ev (.app sTup .nil) σ cs (.tup []) := .app .nil (tup_d (show 0 ≤ 16777216 by decide))
theorem tp1 (h : Ev a σ cs x) : Ev (.app sTup (.cons a .nil)) σ cs (.tup [x]) := .app (.one h) (tup_d (show 1 ≤ 16777216 by decide))
theorem tp2 (h : Ev a σ cs x) (h2 : Ev b σ cs y) : Ev (.app sTup (.cons a (.cons b .nil))) σ cs (.tup [x, y]) := .app (.two h h2) (tup_d (show 2 ≤ 16777216 by decide))
theorem tp3 (h : Ev a σ cs x) (h2 : Ev b σ cs y) (h3 : Ev c σ cs z) : Ev (.app sTup (.cons a (.cons b (.cons c .nil)))) σ cs (.tup [x, y, z]) := .app (.three h h2 h3) (tup_d (show 3 ≤ 16777216 by decide))
end
theorem fit3 {w : Str} {i : Int} {t : Th} (h : Fit (mk3 w i t)) : isI t = decide (w = "link") := by
  cases t with
  | i j => exact (decide_eq_true (show w = "link" from h)).symm
  | s b ss => exact (decide_eq_false (show w ≠ "link" from h)).symm
theorem ok_oddS : okFn 6 (c_l_odd_step spOf) spOddS := by
  rintro ds cs Q X ⟨n, s, rfl, hc, hi, hf, hz, hQ⟩
  show wpS (.seq (c_l_odd_step_2 spOf) (.seq (c_l_odd_step_3 spOf) (.seq (c_l_odd_step_5 spOf) (.seq (c_l_odd_step_6 spOf) (c_l_odd_step_7 spOf))))) [some (.ref n), some (gD s), none, none, none, none] cs _
  refine wpS_seq ?_
  rw [c_l_odd_step_2]
  have isi : Ev (.app (sIsi .int) (.cons (.v 1) .nil)) [some (.ref n), some (gD s), none, none, none, none] cs (.bl (isNd s)) := .app (.one (.var rfl)) isi_g
  rcases s.three with ⟨i, rfl⟩ | ⟨o, rfl⟩ | ⟨w, i, t, rfl⟩
  · simp only [inG] at hi
    refine wpS_ift isi ?_
    rw [c_l_odd_step_1]
    have e : Evs (.cons (.v 0) (.cons (.app sList (.cons (.app sTup .nil) (.cons (.app sTup (.cons (.c (.str "find")) .nil)) (.cons (.app sTup (.cons (.c (.str "link")) (.cons (.v 1) (.cons (.v 1) .nil)))) (.cons (.app sTup (.cons (.c (.str "link")) (.cons (.c (.int 1)) .nil))) (.cons (.app sTup (.cons (.c (.str "link")) (.cons (.c (.int 1)) (.cons (.app sTup (.cons (.c (.int 2)) .nil)) .nil)))) (.cons (.app sPow (.cons (.c (.int 10)) (.cons (.c (.int 30)) .nil))) (.cons (.app sSub (.cons (.c (.int 0)) (.cons (.v 1) .nil))) .nil)))))))) .nil)) [some (.ref n), some (gD (.nd i)), none, none, none, none] cs [.ref n, .lst [.tup [], .tup [.str "find"], .tup [.str "link", .int i, .int i], .tup [.str "link", .int 1], .tup [.str "link", .int 1, .tup [.int 2]], .int (10 ^ 30), .int (0 - i)]] :=
      .two (.var rfl) (.app (.cons tp0 (.cons (tp1 .con) (.cons (tp3 .con (.var rfl) (.var rfl)) (.cons (tp2 .con .con) (.cons (tp3 .con .con (tp1 .con)) (.cons pow30 (.one (.app (.two .con (.var rfl)) sub_d)))))))) (list_d (show 7 ≤ 16777216 by decide)))
    simp only [wpS]
    rw [wpE_app]
    refine e _ _ (of_g (P := Odd (.nd i)) hc (by simp) (show 7 ≤ 16777216 by decide) ?_ hQ)
    exact all_cons ⟨.sh none, rfl, trivial, by simp [dpS], by simp [szS]⟩ (all_cons ⟨.sh (some ("find", none)), rfl, wF, by simp [dpS], by simp [szS]⟩ (all_cons ⟨.ti "link" i i, rfl, ⟨wL, hi, hi⟩, by simp [dpS], by simp [szS]⟩
      (all_cons ⟨.sh (some ("link", some 1)), rfl, ⟨wL, bigc (by decide)⟩, by simp [dpS], by simp [szS]⟩ (all_cons ⟨.ts "link" 1 true [.nd 2], rfl, ⟨wL, bigc (by decide), bigc (by decide), trivial⟩, by simp [dpS, dpL], by simp [szS, szL]⟩
      (all_cons ⟨.nd (10 ^ 30), rfl, big1, by simp [dpS], by simp [szS]⟩ (all_cons ⟨.nd (0 - i), rfl, bigN hi, by simp [dpS], by simp [szS]⟩ all_nil))))))
  · exact hf.elim
  obtain ⟨hw, hb⟩ := in3 hi
  have hn : isNd (mk3 w i t) = false := by cases t <;> rfl
  rw [hn] at isi
  refine wpS_iff isi (wpS_skip ?_)
  dsimp only
  refine wpS_seq ?_
  rw [c_l_odd_step_3]
  refine wpS_asg (d := .tup [.str w, .int i, thD t]) (by rw [← mk3_D]; exact .var rfl) (σ' := [some (.ref n), some (gD (mk3 w i t)), some (.str w), some (.int i), some (thD t), none]) rfl ?_
  dsimp only
  refine wpS_seq ?_
  rw [c_l_odd_step_5]
  have f3 := fit3 hf
  refine wpS_if (k := decide (w = "link")) (.app (.two (.var rfl) .con) fun Q X k => eq_s (wd_ok hw) ok_lkS _ _ ?_) (fun z => ?_) fun z => ?_
  · have : (w == ("link" : Str)) = decide (w = "link") := by
      by_cases z : w = "link"
      · rw [z, decide_eq_true rfl, beq_self_eq_true]
      · rw [decide_eq_false z]
        exact beq_eq_false_iff_ne.mpr z
    rw [this]
    exact k
  · rw [z] at f3
    cases t with
    | s b ss => cases f3
    | i j =>
    simp only [mk3, inG] at hi
    rw [c_l_odd_step_4]
    have e : Evs (.cons (.v 0) (.cons (.app sList (.cons (.app sTup (.cons (.c (.str "Link")) (.cons (.v 3) (.cons (.v 4) .nil)))) (.cons (.app sTup (.cons (.c (.str "link")) (.cons (.v 4) (.cons (.app sTup .nil) .nil)))) (.cons (.app sTup (.cons (.c (.str "repeat")) (.cons (.v 3) (.cons (.v 4) .nil)))) (.cons (.app sTup (.cons (.c (.str "link")) (.cons (.v 3) .nil))) .nil))))) .nil)) [some (.ref n), some (gD (mk3 w i (.i j))), some (.str w), some (.int i), some (thD (.i j)), none] cs [.ref n, .lst [.tup [.str "Link", .int i, .int j], .tup [.str "link", .int j, .tup []], .tup [.str "repeat", .int i, .int j], .tup [.str "link", .int i]]] :=
      .two (.var rfl) (.app (.cons (tp3 .con (.var rfl) (.var rfl)) (.cons (tp3 .con (.var rfl) tp0) (.cons (tp3 .con (.var rfl) (.var rfl)) (.one (tp2 .con (.var rfl)))))) (list_d (show 4 ≤ 16777216 by decide)))
    simp only [wpS]
    rw [wpE_app]
    refine e _ _ (of_g (P := Odd (.ti w i j)) hc (by simp) (show 4 ≤ 16777216 by decide) ?_ hQ)
    exact all_cons ⟨.ti "Link" i j, rfl, ⟨wK, hi.2⟩, by simp [dpS], by simp [szS]⟩ (all_cons ⟨.ts "link" j true [], rfl, ⟨wL, hi.2.2, trivial⟩, by simp [dpS, dpL], by simp [szS, szL]⟩ (all_cons ⟨.ti "repeat" i j, rfl, ⟨wR, hi.2⟩, by simp [dpS], by simp [szS]⟩
      (all_cons ⟨.sh (some ("link", some i)), rfl, ⟨wL, hi.2.1⟩, by simp [dpS], by simp [szS]⟩ all_nil)))
  · rw [z] at f3
    cases t with
    | i j => cases f3
    | s b ss =>
    simp only [mk3, inG] at hi
    simp only [mk3, szS] at hz
    refine wpS_skip ?_
    dsimp only
    refine wpS_seq ?_
    rw [c_l_odd_step_6]
    refine wpS_asg (d := .lst [.tup [.str "repeat", .int (0 - 1), sqD b (gDs ss)], .tup [.str "repeat", .int (10 ^ 30 + 1), sqD b (gDs ss)], .tup [.str "repeat", .int (10 ^ 30), sqD b (gDs ss)], .tup [.str "link", .int i, sqD b (gDs ss)]]) (.app (.cons (tp3 .con (.app (.two .con .con) sub_d) (.var rfl)) (.cons (tp3 .con (.app (.two pow30 .con) add_d) (.var rfl)) (.cons (tp3 .con pow30 (.var rfl)) (.one (tp3 .con (.var rfl) (.var rfl)))))) (list_d (show 4 ≤ 16777216 by decide))) rfl ?_
    dsimp only [List.set]
    rw [c_l_odd_step_7]
    have lss := szL_len ss
    have tq : ∀ {σ : Sl}, getV σ 4 = some (sqD b (gDs ss)) → getV σ 1 = some (gD (mk3 w i (.s b ss))) → Ev (.app sAddT (.cons (.app sTupOf (.cons (.v 4) .nil)) (.cons (.app sTup (.cons (.v 1) .nil)) .nil))) σ cs (.tup (gDs (ss ++ [mk3 w i (.s b ss)]))) := fun h4 h1 => .app (.two (d := .tup (gDs ss)) (.app (.one (.var h4)) fun Q X h => by
        show (match getQ (sqD b (gDs ss)) cs with
          | some xs => Q (.tup xs) cs
          | none => False)
        rw [sqD_q]
        exact h) (tp1 (.var h1))) fun Q X h => ⟨_, _, rfl, by rw [gDs_map]; show _ ≤ 16777216; simp; omega, by rw [show gDs ss ++ [gD (mk3 w i (.s b ss))] = gDs (ss ++ [mk3 w i (.s b ss)]) by rw [gDs_map, gDs_map, List.map_append]; rfl]; exact h⟩
    simp only [wpS]
    rw [wpE_app]
    refine (Evs.two (d := .ref n) (d' := .lst [.tup [.str "repeat", .int (0 - 1), sqD b (gDs ss)], .tup [.str "repeat", .int (10 ^ 30 + 1), sqD b (gDs ss)], .tup [.str "repeat", .int (10 ^ 30), sqD b (gDs ss)], .tup [.str "link", .int i, sqD b (gDs ss)], .tup [.str "rounds", .int i, sqD b (gDs ss)], .tup [.str "repeat", .int i], .tup [.str "repeat", .int i, .tup (gDs (ss ++ [mk3 w i (.s b ss)]))], .tup [.str "", .int 1, .int 1]]) (.var rfl)
      (.app (.two (.var rfl) (.app (.cons (tp3 .con (.var rfl) (.var rfl)) (.cons (tp2 .con (.var rfl)) (.cons (tp3 .con (.var rfl) (tq rfl rfl)) (.one (tp3 .con .con .con))))) (list_d (show 4 ≤ 16777216 by decide)))) fun Q X h => ⟨show 4 + 4 ≤ 16777216 by decide, h⟩)) _ _ (of_g (P := Odd (.ts w i b ss)) hc (by simp) (show 8 ≤ 16777216 by decide) ?_ hQ)
    have hss : inGL (ss ++ [mk3 w i (.s b ss)]) := inGL_mem.mpr fun s hs => by
      rcases List.mem_append.mp hs with hs | hs
      · exact inGL_mem.mp hi.2.2 s hs
      · rw [List.mem_singleton.mp hs]
        simp only [mk3, inG]
        exact hi
    exact all_cons ⟨.ts "repeat" (0 - 1) b ss, rfl, ⟨wR, bigc (by decide), hi.2.2⟩, by simp [dpS], by simp [szS]; omega⟩ (all_cons ⟨.ts "repeat" (10 ^ 30 + 1) b ss, rfl, ⟨wR, big2, hi.2.2⟩, by simp [dpS], by simp [szS]; omega⟩ (all_cons ⟨.ts "repeat" (10 ^ 30) b ss, rfl, ⟨wR, big1, hi.2.2⟩, by simp [dpS], by simp [szS]; omega⟩
      (all_cons ⟨.ts "link" i b ss, rfl, ⟨wL, hi.2⟩, by simp [dpS], by simp [szS]; omega⟩ (all_cons ⟨.ts "rounds" i b ss, rfl, ⟨wO, hi.2⟩, by simp [dpS], by simp [szS]; omega⟩ (all_cons ⟨.sh (some ("repeat", some i)), rfl, ⟨wR, hi.2.1⟩, by simp [dpS], by simp [szS]⟩
      (all_cons ⟨.ts "repeat" i true (ss ++ [mk3 w i (.s b ss)]), rfl, ⟨wR, hi.2.1, hss⟩, by simp [dpS, dpL_app, dpL, mk3] <;> omega, by simp [szS, szL_app, szL, mk3]; omega⟩ (all_cons ⟨.ti "" 1 1, rfl, ⟨wE, bigc (by decide), bigc (by decide)⟩, by simp [dpS], by simp [szS]⟩ all_nil)))))))
/-! ### a history with a fault -/
/-- what comes of steps -/
def Bent (ss ss' : List Gp) : Prop := inGL ss' ∧ dpL ss' ≤ dpL ss + 1 ∧ szL ss' ≤ 3 * szL ss
def spBent : Nat → G.Spec
  | 0 => fun _ _ _ _ => False
  | i + 1 => fun ds cs Q _ => ∃ (n : Nat) (b : Bool) (ss : List Gp), ds = [.ref n, sqD b (gDs ss)] ∧ cs n = some .drw ∧ inGL ss ∧ dpL ss ≤ i ∧ szL ss ≤ 4000 ∧ ∀ b' ss', (b = false → b' = false) → Bent ss ss' → Q (sqD b' (gDs ss')) cs
theorem cut_a {b : Bool} {xs : List D} {i : Nat} {σ : Sl} {cs : Cs} {e1 e2 : E} (h1 : Ev e1 σ cs (sqD b xs)) (h2 : Ev e2 σ cs (.int (i : Nat))) (hi : i < xs.length) : Ev (.app sListOf (.cons (.app sCutHi (.cons e1 (.cons e2 .nil))) .nil)) σ cs (.lst (xs.take i)) := by
  cases b with
  | true => exact .app (.one (.app (d := .tup (xs.take i)) (.two h1 h2) fun Q X h => cutHi_t hi h)) fun Q X h => h
  | false => exact .app (.one (.app (d := .lst (xs.take i)) (.two h1 h2) fun Q X h => cutHi_q rfl h)) fun Q X h => h
theorem cut_b {b : Bool} {xs : List D} {i : Nat} {σ : Sl} {cs : Cs} {e1 e2 : E} (h1 : Ev e1 σ cs (sqD b xs)) (h2 : Ev e2 σ cs (.int (i + 1 : Nat))) (hi : i < xs.length) : Ev (.app sListOf (.cons (.app sCutLo (.cons e1 (.cons e2 .nil))) .nil)) σ cs (.lst (xs.drop (i + 1))) := by
  cases b with
  | true =>
    refine .app (.one (.app (d := .tup (xs.drop (i + 1))) (.two h1 h2) fun Q X h => ?_)) fun Q X h => h
    show sSl (some ((i + 1 : Nat) : Int)) none (.tup xs) cs Q
    have e : cutD xs (some ((i + 1 : Nat) : Int)) none = xs.drop (i + 1) := by
      unfold cutD
      simp only [sIxAt, if_neg (show ¬ (((i + 1 : Nat) : Int) < 0) by omega), Int.toNat_natCast]
      by_cases h : i + 1 ≤ xs.length
      · rw [Nat.min_eq_left h, List.take_of_length_le (by rw [List.length_drop]; omega)]
      · rw [Nat.min_eq_right (by omega), List.drop_of_length_le (Nat.le_refl _), List.drop_of_length_le (by omega), List.take_nil]
    refine ⟨fun z => ?_, by rw [e]; exact h⟩
    have z1 := z.1
    have z2 : sIxAt xs.length 0 (some ((i + 1 : Nat) : Int)) = min (i + 1) xs.length := by
      simp only [sIxAt, if_neg (show ¬ (((i + 1 : Nat) : Int) < 0) by omega), Int.toNat_natCast]
    rw [z2] at z1
    rw [Nat.min_eq_left (by omega)] at z1
    omega
  | false => exact .app (.one (.app (d := .lst (xs.drop (i + 1))) (.two h1 h2) fun Q X h => by rw [show sqD false xs = .lst xs from rfl, cutLo_d]; exact h)) fun Q X h => h
theorem set_gDs {ss : List Gp} {i : Nat} {s' : Gp} : (gDs ss).take i ++ [gD s'] ++ (gDs ss).drop (i + 1) = gDs (ss.take i ++ [s'] ++ ss.drop (i + 1)) := by
  simp only [gDs_map, List.map_append, List.map_take, List.map_drop, List.map_cons, List.map_nil]
theorem bent_set {ss : List Gp} {i : Nat} {s s' : Gp} (h : ss[i]? = some s) (hi : inGL ss) (h1 : inG s') (h2 : dpS s' ≤ dpS s + 1) (h3 : szS s' ≤ 3 * szS s) : Bent ss (ss.take i ++ [s'] ++ ss.drop (i + 1)) := by
  obtain ⟨hl, hv⟩ := List.getElem?_eq_some_iff.mp h
  have e : ss = ss.take i ++ [s] ++ ss.drop (i + 1) := by
    rw [List.append_assoc, List.singleton_append, ← hv, ← List.drop_eq_getElem_cons hl, List.take_append_drop]
  have d := congrArg dpL e
  have z := congrArg szL e
  rw [dpL_app, dpL_app] at d
  rw [szL_app, szL_app] at z
  simp only [dpL, szL] at d z
  refine ⟨inGL_mem.mpr fun x hx => ?_, ?_, ?_⟩
  · rcases List.mem_append.mp hx with hx | hx
    · rcases List.mem_append.mp hx with hx | hx
      · exact inGL_mem.mp hi x (List.mem_of_mem_take hx)
      · rw [List.mem_singleton.mp hx]
        exact h1
    · exact inGL_mem.mp hi x (List.mem_of_mem_drop hx)
  · rw [dpL_app, dpL_app]
    simp only [dpL]
    omega
  · rw [szL_app, szL_app]
    simp only [szL]
    omega
theorem eq_b {a b : Bool} {cs : Cs} : SpD sEq [.bl a, .bl b] cs (.bl (a == b)) := fun Q X h => by
  refine ⟨rfl, rfl, ?_⟩
  exact h
theorem ok_bent (i : Nat) : okFn 4 (c_l_bent (spBent i) spOddS spTake) (spBent (i + 1)) := by
  rintro ds cs Q X ⟨n, b, ss, rfl, hc, hi, hd, hz, hQ⟩
  show wpS (.seq (c_l_bent_2 (spBent i) spOddS spTake) (.seq (c_l_bent_3 (spBent i) spOddS spTake) (.seq (c_l_bent_4 (spBent i) spOddS spTake) (.seq (c_l_bent_9 (spBent i) spOddS spTake) (c_l_bent_10 (spBent i) spOddS spTake))))) [some (.ref n), some (sqD b (gDs ss)), none, none] cs _
  have ll := szL_len ss
  have lD : (gDs ss).length = ss.length := by rw [gDs_map, List.length_map]
  have len : ∀ {σ : Sl} {c : Cs}, getV σ 1 = some (sqD b (gDs ss)) → Ev (.app sLen (.cons (.v 1) .nil)) σ c (.int (ss.length : Nat)) := fun h => by
    rw [← lD]
    exact .app (.one (.var h)) (len_d (by cases b; exact .inl rfl; exact .inr rfl))
  refine wpS_seq ?_
  rw [c_l_bent_2]
  by_cases h0 : ss = []
  · subst h0
    refine wpS_ift (.app (.two (len rfl) .con) fun Q X h => eq_i _ _ h) ?_
    rw [c_l_bent_1]
    exact wpS_ret (.var rfl) (hQ b [] id ⟨trivial, by simp [dpL], by simp [szL]⟩)
  have lp : 0 < ss.length := List.length_pos_iff.mpr h0
  refine wpS_iff (.app (.two (len rfl) .con) fun Q X h => eq_i _ _ (by rw [show (((ss.length : Nat) : Int) == 0) = false by rw [beq_eq_false_iff_ne]; omega]; exact h)) (wpS_skip ?_)
  dsimp only
  refine wpS_seq ?_
  rw [c_l_bent_3, wpS_asgE, wpE_app]
  refine (Evs.two (.var rfl) (len rfl)) _ _ ?_
  rw [spTake_e]
  refine ⟨hc, by omega, by omega, fun r r0 r1 => ?_⟩
  obtain ⟨p, rfl⟩ := Int.eq_ofNat_of_zero_le r0
  have pl : p < ss.length := by omega
  refine bindK_of rfl ?_
  dsimp only [List.set]
  obtain ⟨s, hs⟩ : ∃ s, ss[p]? = some s := ⟨_, List.getElem?_eq_getElem pl⟩
  have sm := List.mem_of_getElem? hs
  have si := inGL_mem.mp hi s sm
  have sd := dpL_mem sm
  have sz := szL_mem sm
  have sp := szS_pos s
  have gs : (gDs ss)[p]? = some (gD s) := by rw [gDs_map, List.getElem?_map, hs]; rfl
  refine wpS_seq ?_
  rw [c_l_bent_4]
  refine wpS_asg (d := gD s) (.app (.two (.var rfl) (.var rfl)) (ix_d sqD_q (ix_nat gs))) rfl ?_
  dsimp only [List.set]
  -- the end
  have fin : ∀ s', inG s' → dpS s' ≤ dpS s + 1 → szS s' ≤ 3 * szS s → wpS (c_l_bent_10 (spBent i) spOddS spTake) [some (.ref n), some (sqD b (gDs ss)), some (.int (p : Nat)), some (gD s')] cs { nx := fun _ cs' => Q .non cs', rt := Q, ex := fun x _ cs' => X x cs' } := fun s' h1 h2 h3 => by
    rw [c_l_bent_10]
    refine wpS_ret (d := sqD false (gDs (ss.take p ++ [s'] ++ ss.drop (p + 1)))) (.app (.two (d := .lst ((gDs ss).take p ++ [gD s'])) (.app (.two (cut_a (.var rfl) (.var rfl) (by rw [lD]; exact pl)) (.app (.one (.var rfl)) (list_d (show 1 ≤ 16777216 by decide)))) fun Q X h => ⟨show _ ≤ 16777216 by rw [List.length_take]; simp; omega, h⟩) (cut_b (b := b) (i := p) (.var rfl) (.app (.two (.var rfl) .con) add_d) (by rw [lD]; exact pl))) fun Q X h => ⟨show _ ≤ 16777216 by simp; omega, by rw [set_gDs]; exact h⟩) ?_
    exact hQ false _ (fun _ => rfl) (bent_set hs hi h1 h2 h3)
  refine wpS_seq ?_
  rw [c_l_bent_9]
  have isi : ∀ {σ : Sl}, getV σ 3 = some (gD s) → Ev (.app (sIsi .int) (.cons (.v 3) .nil)) σ cs (.bl (isNd s)) := fun h => .app (.one (.var h)) isi_g
  have odd : Fit s → wpS (c_l_bent_6 (spBent i) spOddS spTake) [some (.ref n), some (sqD b (gDs ss)), some (.int (p : Nat)), some (gD s)] cs { nx := fun σ' cs' => wpS (c_l_bent_10 (spBent i) spOddS spTake) σ' cs' { nx := fun _ cs' => Q .non cs', rt := Q, ex := fun x _ cs' => X x cs' }, rt := Q, ex := fun x _ cs' => X x cs' } := fun hf => by
    rw [c_l_bent_6, wpS_asgE, wpE_app]
    refine (Evs.two (.var rfl) (.var rfl)) _ _ ?_
    refine ⟨n, s, rfl, hc, si, hf, by omega, fun s' hs' => ?_⟩
    refine bindK_of rfl ?_
    exact fin s' hs'.1 hs'.2.1 (by have := hs'.2.2; omega)
  rcases s.three with ⟨j, rfl⟩ | ⟨o, rfl⟩ | ⟨w, j, t, rfl⟩
  · refine wpS_ift (.or_t (isi rfl)) ?_
    rw [c_l_bent_8]
    refine wpS_iff (.and_f (.not (isi rfl))) ?_
    rw [c_l_bent_7]
    exact wpS_ift (.or_t (isi rfl)) (odd trivial)
  · refine wpS_iff (.or_f (isi rfl) ?_) (wpS_skip (fin _ si (by omega) (by omega)))
    have l3 : ∀ {xs : List D} {σ : Sl}, getV σ 3 = some (.tup xs) → xs.length ≠ 3 → Ev (.app sEq (.cons (.app sLen (.cons (.v 3) .nil)) (.cons (.c (.int 3)) .nil))) σ cs (.bl false) := fun hx hl => .app (.two (.app (.one (.var hx)) len_t) .con) fun Q X k => eq_i _ _ (by rw [show (((_ : Nat) : Int) == 3) = false by rw [beq_eq_false_iff_ne]; omega]; exact k)
    rcases o with _ | ⟨w, _ | j⟩
    · exact l3 rfl (by decide)
    · exact l3 rfl (show (1 : Nat) ≠ 3 by decide)
    · exact l3 rfl (show (2 : Nat) ≠ 3 by decide)
  obtain ⟨hw, hb⟩ := in3 si
  have hn : isNd (mk3 w j t) = false := by cases t <;> rfl
  rw [hn] at isi
  have ev : ∀ {σ : Sl}, getV σ 3 = some (gD (mk3 w j t)) → Ev (.v 3) σ cs (gD (mk3 w j t)) := fun h => .var h
  refine wpS_ift (.or_f (isi rfl) (.app (.two (.app (.one (.var (d := .tup [.str w, .int j, thD t]) (by rw [← mk3_D]; rfl))) len_t) .con) fun Q X k => eq_i _ _ k)) ?_
  -- the second choice
  have sec : wpS (c_l_bent_7 (spBent i) spOddS spTake) [some (.ref n), some (sqD b (gDs ss)), some (.int (p : Nat)), some (gD (mk3 w j t))] cs { nx := fun σ' cs' => wpS (c_l_bent_10 (spBent i) spOddS spTake) σ' cs' { nx := fun _ cs' => Q .non cs', rt := Q, ex := fun x _ cs' => X x cs' }, rt := Q, ex := fun x _ cs' => X x cs' } := by
    rw [c_l_bent_7]
    refine wpS_if (.or_f (isi rfl) (.app (.two (eq_lit hw ok_lkS (ev rfl)) (third_q (ev rfl))) eq_b)) (fun z => odd ?_) fun z => wpS_skip (fin _ si (by omega) (by omega))
    have z : decide (w = "link") = isI t := eq_of_beq z
    cases t with
    | i j2 => exact (of_decide_eq_true z : w = "link")
    | s b2 us => exact (of_decide_eq_false z : ¬ w = "link")
  rw [c_l_bent_8]
  simp only [wpS]
  rw [wpE_and]
  refine (Ev.not (isi rfl)) _ _ ?_
  show wpE _ _ _ _ _
  rw [wpE_and]
  refine eq_lit hw ok_rpS (ev rfl) _ _ ?_
  by_cases hr : w = "repeat"
  rotate_left
  · rw [decide_eq_false hr]
    exact sec
  rw [decide_eq_true hr]
  show wpE _ _ _ _ _
  rw [wpE_and]
  refine (Ev.not (third_q (ev rfl))) _ _ ?_
  cases t with
  | i j2 => exact sec
  | s b2 us =>
  show wpE _ _ _ _ _
  rw [wpE_app, wpEs_cons, wpE_app]
  refine (Evs.two (d := .ref n) (d' := .int 3) (.var rfl) .con) _ _ ?_
  rw [spTake_e]
  refine ⟨hc, by decide, by decide, fun r r0 r1 => ?_⟩
  refine (Evs.one (d := .int 0) .con) _ _ ?_
  rw [sGt_i]
  by_cases rp : 0 < r
  rotate_left
  · rw [decide_eq_false rp]
    exact sec
  rw [decide_eq_true rp]
  show wpS (c_l_bent_5 (spBent i) spOddS spTake) _ _ _
  simp only [mk3, inG] at si
  simp only [mk3, dpS] at sd
  simp only [mk3, szS] at sz
  obtain ⟨i, rfl⟩ : ∃ i', i = i' + 1 := ⟨i - 1, by omega⟩
  rw [c_l_bent_5, wpS_asgE, wpE_app, wpEs_cons]
  have ev' : Ev (.v 3) [some (.ref n), some (sqD b (gDs ss)), some (.int (p : Nat)), some (gD (mk3 w j (.s b2 us)))] cs (.tup [.str w, .int j, sqD b2 (gDs us)]) := .var rfl
  refine sub0 ev' _ _ ?_
  rw [wpEs_cons]
  refine sub1 ev' _ _ ?_
  rw [wpEs_cons, wpE_app, wpEs_cons, wpE_app]
  refine (Evs.two (d := .ref n) (.var rfl) (sub2 ev')) _ _ ?_
  refine ⟨n, b2, us, rfl, hc, si.2.2, by omega, by omega, fun b' us' _ hb' => ?_⟩
  dsimp only
  rw [wpEs_nil]
  show (match getQ (sqD b' (gDs us')) cs with
    | some xs => _
    | none => False)
  rw [sqD_q]
  dsimp only
  rw [wpEs_nil]
  refine ⟨show 3 ≤ 16777216 by decide, ?_⟩
  refine bindK_of rfl ?_
  obtain ⟨b1, b2, b3⟩ := hb'
  exact fin (.ts w j true us') ⟨si.1, si.2.1, b1⟩ (by simp only [mk3, dpS]; omega) (by simp only [mk3, szS]; omega)
end K11

namespace K11
open G
open PySem (Str)
open PySem
/-! ### what asks first whether it is a history -/
def erE (e : Er2) : Er := er e.1 (if e.1 = "TooLong" then "limit" else "pos") (.int e.2)
/-- x is no history: e -/
def Bad (x : D) (e : Er2) : Prop := ∃ b ss, x = sqD b (gDs ss) ∧ inGL ss ∧ dpL ss ≤ 30 ∧ chL 0 0 ss = .error e
theorem Bad.chk {x : D} {e : Er2} {cs : Cs} {Q : KD} {X : KX} (h : Bad x e) (hX : X (erE e) cs) : spCHk [x] cs Q X := by
  obtain ⟨b, ss, rfl, hi, hd, he⟩ := h
  refine ⟨_, ss, rfl, ⟨b, rfl⟩, hi, hd, ?_⟩
  rw [he]
  exact hX
def spB0 : G.Spec := fun ds cs Q X => ∃ x e, ds = [x] ∧ Bad x e ∧ X (erE e) cs
def spB1 : G.Spec := fun ds cs Q X => ∃ x y e, ds = [x, y] ∧ Bad x e ∧ X (erE e) cs
def spB2 : G.Spec := fun ds cs Q X => ∃ x y z e, ds = [x, y, z] ∧ Bad x e ∧ X (erE e) cs
def spBr : G.Spec := fun ds cs Q X => ∃ x y e, ds = [y, x] ∧ Bad x e ∧ X (erE e) cs
def spB1D : G.Spec := fun us cs Q X => spB1 (us ++ [.int 1000]) cs Q X
theorem ok_cf : okFn 1 (c_count_finds spCHk) spB0 := by
  rintro ds cs Q X ⟨x, e, rfl, hb, hX⟩
  show wpS (.seq (c_count_finds_1 spCHk) _) [some x] cs _
  refine wpS_seq ?_
  rw [c_count_finds_1]
  simp only [wpS, wpE, wpEs, getV]
  exact hb.chk hX
theorem ok_fn : okFn 2 (c_found_nodesQ spCHk) spB0 := by
  rintro ds cs Q X ⟨x, e, rfl, hb, hX⟩
  show wpS (.seq (c_found_nodesQ_1 spCHk) _) [some x, none] cs _
  refine wpS_seq ?_
  rw [c_found_nodesQ_1]
  simp only [wpS, wpE, wpEs, getV]
  exact hb.chk hX
theorem ok_ep : okFn 3 (c_epochs spCHk) spB0 := by
  rintro ds cs Q X ⟨x, e, rfl, hb, hX⟩
  show wpS (.seq (c_epochs_1 spCHk) _) [some x, none, none] cs _
  refine wpS_seq ?_
  rw [c_epochs_1]
  simp only [wpS, wpE, wpEs, getV]
  exact hb.chk hX
theorem ok_fh : okFn 1 (c_format_history spCHk) spB0 := by
  rintro ds cs Q X ⟨x, e, rfl, hb, hX⟩
  show wpS (.seq (c_format_history_1 spCHk) _) [some x] cs _
  refine wpS_seq ?_
  rw [c_format_history_1]
  simp only [wpS, wpE, wpEs, getV]
  exact hb.chk hX
theorem ok_un : okFn 2 (c_unrollX spB0) spB1 := by
  rintro ds cs Q X ⟨x, y, e, rfl, hb, hX⟩
  show wpS (.seq (c_unrollX_2 spB0) _) [some x, some y] cs _
  refine wpS_seq ?_
  rw [c_unrollX_2]
  simp only [wpS, wpE, wpEs, getV]
  exact ⟨x, e, rfl, hb, hX⟩
theorem ok_rn : okFn 5 (c_run_history spCHk) spBr := by
  rintro ds cs Q X ⟨x, y, e, rfl, hb, hX⟩
  show wpS (.seq (c_run_history_1 spCHk) _) [some y, some x, none, none, none] cs _
  refine wpS_seq ?_
  rw [c_run_history_1]
  simp only [wpS, wpE, wpEs, getV]
  exact hb.chk hX
theorem ok_edf : okFn 12 (c_effect_differenceX spB0) spB2 := by
  rintro ds cs Q X ⟨x, y, z, e, rfl, hb, hX⟩
  show wpS (.seq (c_effect_differenceX_1 spB0) _) [some x, some y, some z, none, none, none, none, none, none, none, none, none] cs _
  refine wpS_seq ?_
  rw [c_effect_differenceX_1]
  simp only [wpS, wpE, wpEs, getV]
  exact ⟨x, e, rfl, hb, hX⟩
/-! ### drawn steps -/
theorem embs {P : Gp → Prop} : ∀ ss : List Stp, (∀ s ∈ ss, ∃ g, gD g = stD s ∧ P g) → ∃ gs, gDs gs = stDs ss ∧ gs.length = ss.length ∧ ∀ g ∈ gs, P g
  | [], _ => ⟨[], rfl, rfl, fun _ h => by cases h⟩
  | s :: ss, h => by
    obtain ⟨g, e, hp⟩ := h s List.mem_cons_self
    obtain ⟨gs, es, el, hps⟩ := embs ss fun x hx => h x (List.mem_cons_of_mem _ hx)
    refine ⟨g :: gs, by rw [gDs, stDs, e, es], by simp [el], fun x hx => ?_⟩
    rcases List.mem_cons.mp hx with rfl | hx
    · exact hp
    · exact hps x hx
theorem szL_le {B : Nat} : ∀ gs : List Gp, (∀ g ∈ gs, szS g ≤ B) → szL gs ≤ gs.length * B
  | [], _ => by simp [szL]
  | g :: gs, h => by
    have h1 := h g List.mem_cons_self
    have h2 := szL_le gs fun x hx => h x (List.mem_cons_of_mem _ hx)
    simp only [szL, List.length_cons]
    rw [Nat.add_mul]
    omega
theorem dpL_le {B : Nat} : ∀ gs : List Gp, (∀ g ∈ gs, dpS g ≤ B) → dpL gs ≤ B
  | [], _ => by simp [dpL]
  | g :: gs, h => by
    have h1 := h g List.mem_cons_self
    have h2 := dpL_le gs fun x hx => h x (List.mem_cons_of_mem _ hx)
    simp only [dpL]
    omega
theorem emb : ∀ (d : Nat) (s : Stp), okS 7 d s → ∃ g, gD g = stD s ∧ inG g ∧ dpS g ≤ d ∧ szS g ≤ wrM d
  | d, .nd i, h => by
    have h : 0 ≤ i ∧ i < 7 := by cases d <;> simpa [okS] using h
    refine ⟨.nd i, rfl, bigc (by omega), by simp [dpS], ?_⟩
    cases d <;> simp [szS, wrM]
  | d, .lk c a, h => by
    cases d <;> simp [okS] at h
  | 0, .rp n b ss, h => by simp [okS] at h
  | d + 1, .rp n b ss, h => by
    have h : n ≤ 10 ^ 30 ∧ ss.length ≤ 3 ∧ ∀ s ∈ ss, okS 7 d s := by simpa only [okS] using h
    obtain ⟨h1, h2, h3⟩ := h
    obtain ⟨gs, e, el, hp⟩ := embs (P := fun g => inG g ∧ dpS g ≤ d ∧ szS g ≤ wrM d) ss fun s hs => emb d s (h3 s hs)
    have z := szL_le gs fun g hg => (hp g hg).2.2
    have m : gs.length * wrM d ≤ 3 * wrM d := Nat.mul_le_mul_right _ (by omega)
    refine ⟨.ts "repeat" (n : Nat) b gs, by rw [gD, stD, e], ⟨wR, ?_, inGL_mem.mpr fun g hg => (hp g hg).1⟩, ?_, ?_⟩
    · unfold Big
      omega
    · simp only [dpS]
      have := dpL_le gs fun g hg => (hp g hg).2.1
      omega
    · simp only [szS, wrM]
      omega
/-! ### the law -/
abbrev Lw {α : Type} (cl : List (Str × Nat)) (t0 t1 t2 t3 t4 t5 t6 : LamT) (c : G.Spec → G.Spec → G.Spec → G.Spec → G.Spec → G.Spec → G.Spec → G.Spec → G.Spec → G.Spec → G.Spec → G.Spec → G.Spec → G.Spec → List (Str × Nat) → LamT → LamT → LamT → LamT → LamT → LamT → LamT → α) : α :=
  c (spBent 24) spFt spLR (spSR 4) spStart spTake spCHk spB0 spB2 spB0 spB0 spB0 spBr spB1D cl t0 t1 t2 t3 t4 t5 t6
def St (n : Nat) (σ : Sl) : Prop := ∃ a2 a3 a4 a5 a6 a7 a8 a9 a10 a11 a12 a13 a14 : Option D, σ = [some .scr, some (.ref n), a2, a3, a4, a5, a6, a7, a8, a9, a10, a11, a12, a13, a14]
structure HOk (d z : Nat) (h : List Gp) : Prop where
  i : inGL h
  d : dpL h ≤ d
  z : szL h ≤ z
theorem take_e {n : Nat} {m : Int} {cs : Cs} {Q : KD} {X : KX} (hc : cs n = some .drw) (h0 : 0 < m) (h1 : m < 2 ^ 200) (hQ : ∀ r, 0 ≤ r → r < m → Q (.int r) cs) : spTake [.ref n, .int m] cs Q X := by
  rw [spTake_e]
  exact ⟨hc, h0, h1, hQ⟩
theorem gDs_app {a b : List Gp} : gDs a ++ gDs b = gDs (a ++ b) := by rw [gDs_map, gDs_map, gDs_map, List.map_append]
theorem len_g {h : List Gp} {cs : Cs} {Q : KD} {X : KX} (hQ : Q (.int (h.length : Nat)) cs) : sLen [.lst (gDs h)] cs Q X := by
  rw [len_s (.inl rfl), gDs_map, List.length_map]
  exact hQ
theorem HOk.app {d z d' z' : Nat} {a b : List Gp} (h : HOk d z a) (k : HOk d' z' b) : HOk (max d d') (z + z') (a ++ b) := ⟨inGL_mem.mpr fun x hx => by
  rcases List.mem_append.mp hx with hx | hx
  · exact inGL_mem.mp h.i x hx
  · exact inGL_mem.mp k.i x hx, by rw [dpL_app]; have := h.d; have := k.d; omega, by rw [szL_app]; have := h.z; have := k.z; omega⟩
theorem HOk.cut {d z : Nat} {h : List Gp} {s : Gp} (k : HOk d z h) (i : Nat) (hs : inG s) (h0 : dpS s = 0) (h1 : szS s = 1) : HOk d (z + 1) (h.take i ++ [s] ++ h.drop i) := by
  have e := congrArg dpL (List.take_append_drop i h)
  have e2 := congrArg szL (List.take_append_drop i h)
  rw [dpL_app] at e
  rw [szL_app] at e2
  have := k.d
  have := k.z
  refine ⟨inGL_mem.mpr fun x hx => ?_, ?_, ?_⟩
  · rcases List.mem_append.mp hx with hx | hx
    · rcases List.mem_append.mp hx with hx | hx
      · exact inGL_mem.mp k.i x (List.mem_of_mem_take hx)
      · rw [List.mem_singleton.mp hx]
        exact hs
    · exact inGL_mem.mp k.i x (List.mem_of_mem_drop hx)
  · rw [dpL_app, dpL_app]
    simp only [dpL]
    omega
  · rw [szL_app, szL_app]
    simp only [szL]
    omega
theorem HOk.up {d z d' z' : Nat} {h : List Gp} (k : HOk d z h) (hd : d ≤ d') (hz : z ≤ z') : HOk d' z' h := ⟨k.i, Nat.le_trans k.d hd, Nat.le_trans k.z hz⟩
section
variable {cl : List (Str × Nat)} {t0 t1 t2 t3 t4 t5 t6 : LamT}
theorem draw {n : Nat} {a2 a3 a4 a5 a6 a7 a8 a9 a10 a11 a12 a13 a14 : Option D} {cs : Cs} {K : Ends} {rest : S} (hc : cs n = some .drw)
    (hK : ∀ (h : List Gp) b3 b4 b5 b6, HOk 12 4000 h → wpS rest [some .scr, some (.ref n), a2, b3, b4, b5, b6, a7, a8, a9, a10, a11, some (.lst (gDs h)), a13, a14] cs K) :
    wpS (.seq (Lw cl t0 t1 t2 t3 t4 t5 t6 c_law_2) (.seq (Lw cl t0 t1 t2 t3 t4 t5 t6 c_law_3) (.seq (Lw cl t0 t1 t2 t3 t4 t5 t6 c_law_5) (.seq (Lw cl t0 t1 t2 t3 t4 t5 t6 c_law_8) (.seq (Lw cl t0 t1 t2 t3 t4 t5 t6 c_law_10) (.seq (Lw cl t0 t1 t2 t3 t4 t5 t6 c_law_12) rest)))))) [some .scr, some (.ref n), a2, a3, a4, a5, a6, a7, a8, a9, a10, a11, a12, a13, a14] cs K := by
  unfold Lw
  -- faults
  have s12 : ∀ (h : List Gp) b3 b4 b5 b6, HOk 7 178 h → wpS (.seq (Lw cl t0 t1 t2 t3 t4 t5 t6 c_law_12) rest) [some .scr, some (.ref n), a2, b3, b4, b5, b6, a7, a8, a9, a10, a11, some (.lst (gDs h)), a13, a14] cs K := fun h b3 b4 b5 b6 ho => by
    refine wpS_seq ?_
    unfold Lw
    rw [c_law_12]
    simp only [wpS, wpE, wpEs, getV]
    refine take_e hc (by decide) (by decide) fun m m0 m1 => ?_
    refine rng1_inv (fun i σ c => c = cs ∧ ∃ (h : List Gp) (b6 : Option D), HOk (7 + i) (178 * 3 ^ i) h ∧ σ = [some .scr, some (.ref n), a2, b3, b4, b5, b6, a7, a8, a9, a10, a11, some (.lst (gDs h)), a13, a14]) (by omega) (by omega) ⟨rfl, h, _, by simpa using ho, rfl⟩ ?_ ?_
    · rintro i σ c hi ⟨rfl, h, b6, ho, rfl⟩ K' n1 n2 n3 n4 n5
      have i2 : i = 0 ∨ i = 1 := by omega
      have hz := ho.z
      have hz : szL h ≤ 534 := by rcases i2 with rfl | rfl <;> simp at hz <;> omega
      have hd := ho.d
      simp only [List.set]
      rw [c_law_11, wpS_asgE, wpE_app]
      refine (Evs.two (d := .ref n) (d' := .lst (gDs h)) (.var rfl) (.var rfl)) _ _ ?_
      refine ⟨n, false, h, rfl, hc, ho.i, (show dpL h ≤ 23 by omega), by omega, fun b' h' hb' hh => ?_⟩
      rw [hb' rfl]
      refine bindK_of rfl (n1 _ _ ⟨rfl, h', _, ⟨hh.1, by have := hh.2.1; omega, ?_⟩, rfl⟩)
      have a1 := hh.2.2
      have a2 := ho.z
      rw [Nat.pow_succ]
      omega
    · rintro σ c ⟨rfl, h, b6, ho, rfl⟩
      refine hK h _ _ _ _ ⟨ho.i, by have := ho.d; omega, ?_⟩
      have := ho.z
      have m3 : m.toNat ≤ 2 := by omega
      have : 3 ^ m.toNat ≤ 3 ^ 2 := Nat.pow_le_pow_right (by decide) m3
      omega
  have s10 : ∀ (h : List Gp) (pk : Int) b3 b5 b6, HOk 7 76 h → wpS (.seq (Lw cl t0 t1 t2 t3 t4 t5 t6 c_law_10) (.seq (Lw cl t0 t1 t2 t3 t4 t5 t6 c_law_12) rest)) [some .scr, some (.ref n), a2, b3, some (.int pk), b5, b6, a7, a8, a9, a10, a11, some (.lst (gDs h)), a13, a14] cs K := fun h pk b3 b5 b6 ho => by
    refine wpS_seq ?_
    unfold Lw
    rw [c_law_10]
    refine wpS_if (.app (.two (.var rfl) .con) eq_i) (fun z => ?_) fun z => wpS_skip (s12 h _ _ _ _ (ho.up (by omega) (by omega)))
    rw [c_law_9]
    simp only [wpS, wpE, wpEs, getV]
    refine take_e hc (by decide) (by decide) fun v v0 v1 => ⟨show 1 ≤ 16777216 by decide, take_e hc (by decide) (by decide) fun k k0 k1 => ?_⟩
    obtain ⟨k, rfl⟩ := Int.eq_ofNat_of_zero_le k0
    rw [sAdd_i, show (95 : Int) + ((k : Nat) : Int) = ((95 + k : Nat) : Int) by omega]
    refine ⟨by omega, by omega, show 1 * _ ≤ 16777216 by omega, ?_⟩
    rw [flat_rep, Int.toNat_natCast]
    have e : List.replicate (95 + k) (D.int v) = gDs (List.replicate (95 + k) (.nd v)) := by rw [gDs_map, List.map_replicate]; rfl
    rw [e]
    dsimp only
    have l1 := szL_len h
    have l2 := ho.z
    refine ⟨show _ ≤ 16777216 by rw [gDs_map, gDs_map, List.length_map, List.length_map, List.length_replicate]; omega, ?_⟩
    rw [gDs_app]
    simp only [bindP, List.set]
    refine s12 _ _ _ _ _ ((ho.app (d' := 0) (z' := 102) ⟨inGL_mem.mpr fun g hg => ?_, dpL_le _ fun g hg => ?_, Nat.le_trans (szL_le (B := 1) _ fun g hg => ?_) (by rw [List.length_replicate]; omega)⟩).up (by omega) (by omega))
    · rw [(List.mem_replicate.mp hg).2]
      exact bigc (by omega)
    · rw [(List.mem_replicate.mp hg).2]
      simp [dpS]
    · rw [(List.mem_replicate.mp hg).2]
      simp [szS]
  have s8 : ∀ (h : List Gp) (pk : Int) b3 b5 b6, HOk 2 66 h → wpS (.seq (Lw cl t0 t1 t2 t3 t4 t5 t6 c_law_8) (.seq (Lw cl t0 t1 t2 t3 t4 t5 t6 c_law_10) (.seq (Lw cl t0 t1 t2 t3 t4 t5 t6 c_law_12) rest))) [some .scr, some (.ref n), a2, b3, some (.int pk), b5, b6, a7, a8, a9, a10, a11, some (.lst (gDs h)), a13, a14] cs K := fun h pk b3 b5 b6 ho => by
    refine wpS_seq ?_
    unfold Lw
    rw [c_law_8]
    refine wpS_if (.app (.two (.var rfl) .con) eq_i) (fun z => ?_) fun z => wpS_skip (s10 h _ _ _ _ (ho.up (by omega) (by omega)))
    rw [c_law_7]
    simp only [wpS, wpE, wpEs, getV]
    refine take_e hc (by decide) (by decide) fun m m0 m1 => ?_
    rw [sAdd_i]
    refine rng1_inv (fun i σ c => c = cs ∧ ∃ (h : List Gp) (b5 : Option D), HOk (2 + i) (66 + 2 * i) h ∧ σ = [some .scr, some (.ref n), a2, b3, some (.int pk), b5, b6, a7, a8, a9, a10, a11, some (.lst (gDs h)), a13, a14]) (by omega) (by omega) ⟨rfl, h, _, by simpa using ho, rfl⟩ ?_ ?_
    · rintro i σ c hi ⟨rfl, h, b5, ho, rfl⟩ K' n1 n2 n3 n4 n5
      simp only [List.set]
      rw [c_law_6]
      refine wpS_asg (d := .lst (gDs [.nd 3, .ts "repeat" (i : Nat) false h])) (.app (.two (d := .int 3) .con (tp3 .con (.var rfl) (.var rfl))) (list_d (show 2 ≤ 16777216 by decide))) rfl ?_
      have := ho.d
      have := ho.z
      exact n1 _ _ ⟨rfl, [.nd 3, .ts "repeat" (i : Nat) false h], _, ⟨⟨bigc (by decide), ⟨wR, bigc (by omega), ho.i⟩, trivial⟩, by simp only [dpL, dpS]; omega, by simp only [szL, szS]; omega⟩, rfl⟩
    · rintro σ c ⟨rfl, h, b5, ho, rfl⟩
      exact s10 h _ _ _ _ (ho.up (by omega) (by omega))
  refine wpS_seq ?_
  rw [c_law_2]
  simp only [wpS, wpE, wpEs, getV]
  refine take_e hc (by decide) (by decide) fun d d0 d1 => ?_
  obtain ⟨d, rfl⟩ := Int.eq_ofNat_of_zero_le d0
  refine spLR_e (b := 5) hc (by decide) (by decide) (by decide) (by omega) fun ss sl so => ?_
  obtain ⟨h, e, el, hp⟩ := embs ss fun s hs => emb d s (so s hs)
  rw [← e]
  have ho : HOk 2 65 h := ⟨inGL_mem.mpr fun g hg => (hp g hg).1, Nat.le_trans (dpL_le _ fun g hg => (hp g hg).2.1) (by omega), by
    have z := szL_le h fun g hg => (hp g hg).2.2
    have w : wrM d ≤ 13 := by
      have : d = 0 ∨ d = 1 ∨ d = 2 := by omega
      rcases this with rfl | rfl | rfl <;> decide
    have := Nat.mul_le_mul (show h.length ≤ 5 by omega) w
    omega⟩
  simp only [bindP, List.set]
  rw [c_law_3]
  have hl := szL_len h
  have hz := ho.z
  simp only [wpS, wpE, wpEs, getV]
  refine len_g ?_
  rw [sAdd_i]
  refine take_e hc (by omega) (by omega) fun p p0 p1 => take_e hc (by decide) (by decide) fun pk pk0 pk1 => ⟨show 2 ≤ 16777216 by decide, ?_⟩
  obtain ⟨p, rfl⟩ := Int.eq_ofNat_of_zero_le p0
  simp only [bindP, List.set]
  rw [c_law_5]
  simp only [wpS, wpE, wpEs, getV]
  refine take_e hc (by decide) (by decide) fun g g0 g1 => ?_
  rw [sEq_i]
  by_cases h0 : g = 0
  · rw [h0]
    simp only [beq_self_eq_true, if_true]
    rw [c_law_4]
    have lg : (gDs h).length = h.length := by rw [gDs_map, List.length_map]
    simp only [wpS, wpE, wpEs, getV]
    refine cutHi_q (xs := gDs h) rfl (take_e hc (by decide) (by decide) fun u u0 u1 => take_e hc (by decide) (by decide) fun v v0 v1 => ⟨show 3 ≤ 16777216 by decide, show 1 ≤ 16777216 by decide, ?_⟩)
    dsimp only
    rw [sAdd_l]
    refine ⟨show _ ≤ 16777216 by rw [List.length_take, lg]; simp; omega, ?_⟩
    rw [cutLo_d]
    rw [sAdd_l]
    refine ⟨show _ ≤ 16777216 by simp [lg]; omega, ?_⟩
    have e : (gDs h).take p ++ [D.tup [.str "link", .int u, .int v]] ++ (gDs h).drop p = gDs (h.take p ++ [.ti "link" u v] ++ h.drop p) := by
      simp only [gDs_map, List.map_append, List.map_take, List.map_drop, List.map_cons, List.map_nil]
      rfl
    rw [e]
    simp only [bindP, List.set]
    exact s8 _ _ _ _ _ (ho.cut p ⟨wL, bigc (by omega), bigc (by omega)⟩ rfl rfl)
  · rw [show (g == (0 : Int)) = false by simpa using h0]
    simp only [Bool.false_eq_true, if_false]
    exact s8 _ _ _ _ _ (ho.up (by omega) (by omega))
end
end K11

namespace K11
open G
open PySem (Str)
open PySem
theorem er_tag : ∀ {e : Er2}, e = tooL ∨ (∃ p, e = badS p) → fname e.1 = some (if e.1 = "TooLong" then ("limit" : Str) else "pos") ∧ strOk e.1 = true ∧ (!(e.1 == ("" : Str))) = true := by
  rintro e (rfl | ⟨p, rfl⟩)
  · exact ⟨by decide +kernel, by decide +kernel, by decide +kernel⟩
  · refine ⟨?_, ?_, ?_⟩
    · show fname "BadStep" = some (if ("BadStep" : Str) = "TooLong" then ("limit" : Str) else "pos")
      decide +kernel
    · show strOk "BadStep" = true
      decide +kernel
    · show (!(("BadStep" : Str) == ("" : Str))) = true
      decide +kernel
mutual
theorem chS_er : ∀ (s : Gp) {k pos : Nat} {e : Er2}, chS k pos s = .error e → e = tooL ∨ ∃ p, e = badS p
  | .nd i, k, pos, e, h => by
    simp only [chS] at h
    split at h
    · cases h
      exact .inl rfl
    · cases h
  | .sh o, k, pos, e, h => by
    simp only [chS] at h
    split at h
    · cases h
      exact .inl rfl
    · cases h
      exact .inr ⟨_, rfl⟩
  | .ti w i j, k, pos, e, h => by
    simp only [chS] at h
    split at h
    · cases h
      exact .inl rfl
    · split at h
      · cases h
        exact .inr ⟨_, rfl⟩
      · cases h
  | .ts w i b ss, k, pos, e, h => by
    simp only [chS] at h
    split at h
    · cases h
      exact .inl rfl
    · split at h
      · cases h
        exact .inr ⟨_, rfl⟩
      · exact chL_er ss h
theorem chL_er : ∀ (ss : List Gp) {k pos : Nat} {e : Er2}, chL k pos ss = .error e → e = tooL ∨ ∃ p, e = badS p
  | [], k, pos, e, h => by
    simp only [chL] at h
    cases h
  | s :: ss, k, pos, e, h => by
    simp only [chL] at h
    split at h
    · exact chL_er ss h
    · rename_i e' he
      cases h
      exact chS_er s he
end
theorem ok0 : strOk "" = true := by decide +kernel
theorem ne_s {a b : Str} {cs : Cs} (ha : strOk a = true) (hb : strOk b = true) : SpD sNe [.str a, .str b] cs (.bl (!(a == b))) := fun Q X h => by
  have : sNe [.str a, .str b] cs Q X = Q (.bl (!(a == b))) cs := by
    show (pur 64 (.str a) = true ∧ pur 64 (.str b) = true ∧ Q (.bl (!eqD (.str a) (.str b))) cs) = _
    rw [show pur 64 (.str a) = true from pur_str ha, show pur 64 (.str b) = true from pur_str hb]
    simp [eqD]
  rw [this]
  exact h
theorem due_pur {r : Except Er2 Nat} (h : ∀ e, r = .error e → strOk e.1 = true) (k : Nat) : pur (k + 1) (dueE r) = true := by
  cases r with
  | ok p => exact pur_tup2 (pur_str ok0) pur_non
  | error e => exact pur_tup2 (pur_str (h e rfl)) pur_int
/-- due, without the answer -/
def dueN (r : Except Er2 Nat) : D := match r with
  | .ok _ => .tup [.non, .str "", .non]
  | .error e => .tup [.non, .str e.1, .int e.2]
theorem dueN_eq {r : Except Er2 Nat} {cs : Cs} : SpD sAdd [.tup [.non], dueE r] cs (dueN r) := fun Q X h => by
  cases r with
  | ok p => exact ⟨by simp, show 1 + 2 ≤ 16777216 by decide, h⟩
  | error e => exact ⟨by simp, show 1 + 2 ≤ 16777216 by decide, h⟩
theorem dueN_pur {r : Except Er2 Nat} (h : ∀ e, r = .error e → strOk e.1 = true) : pur 3 (dueN r) = true := by
  have t3 : ∀ {a b c : D}, pur 2 a = true → pur 2 b = true → pur 2 c = true → pur 3 (.tup [a, b, c]) = true := fun h1 h2 h3 => by
    show (decide (3 ≤ 16777216) && (pur 2 _ && (pur 2 _ && (pur 2 _ && true)))) = true
    rw [h1, h2, h3]
    rfl
  cases r with
  | ok p => exact t3 pur_non (pur_str ok0) pur_non
  | error e => exact t3 pur_non (pur_str (h e rfl)) pur_int
/-- check_history, its outcome -/
theorem chk_out {b : Bool} {h : List Gp} {cs : Cs} {k : Bool} {Q : KD} {X : KX} (hi : inGL h) (hd : dpL h ≤ 30) (hQ : Q (if k = true then dueE (chL 0 0 h) else dueN (chL 0 0 h)) cs) : spOut k spCHk [sqD b (gDs h)] cs Q X := by
  refine ⟨_, h, rfl, ⟨b, rfl⟩, hi, hd, ?_⟩
  cases he : chL 0 0 h with
  | ok p =>
    rw [he] at hQ
    cases k
    · exact hQ
    · exact hQ
  | error e =>
    rw [he] at hQ
    refine ⟨.int e.2, isEr_of (er_tag (chL_er h he)).1, ?_⟩
    cases k
    · exact hQ
    · exact hQ
theorem app_r {m : Nat} {y : D} {xs : List D} {cs : Cs} {Q : KD} {X : KX} (h : cs m = some (.lst xs)) (hl : xs.length < 16777216) (hQ : Q .non (put cs m (.lst (xs ++ [y])))) : sAppend [.ref m, y] cs Q X := by
  show (match cs m with
    | some (.lst xs) => xs.length < lim ∧ Q .non (put cs m (.lst (xs ++ [y])))
    | _ => False)
  rw [h]
  exact ⟨hl, hQ⟩
section
variable {cl : List (Str × Nat)} {t0 t1 t2 t3 t4 t5 t6 : LamT}
theorem judge {n : Nat} {a2 a3 a4 a5 a6 a7 a8 a9 a10 a11 a13 a14 : Option D} {cs : Cs} {K : Ends} {h : List Gp} (ho : HOk 12 4000 h)
    (hK : ∀ σ c, Le cs c → St n σ → K.nx σ c) :
    wpS (.seq (Lw cl t0 t1 t2 t3 t4 t5 t6 c_law_13) (.seq (Lw cl t0 t1 t2 t3 t4 t5 t6 c_law_15) (.seq (Lw cl t0 t1 t2 t3 t4 t5 t6 c_law_17) (.seq (Lw cl t0 t1 t2 t3 t4 t5 t6 c_law_18) (.seq (Lw cl t0 t1 t2 t3 t4 t5 t6 c_law_19) (.seq (Lw cl t0 t1 t2 t3 t4 t5 t6 c_law_20) (Lw cl t0 t1 t2 t3 t4 t5 t6 c_law_22))))))) [some .scr, some (.ref n), a2, a3, a4, a5, a6, a7, a8, a9, a10, a11, some (.lst (gDs h)), a13, a14] cs K := by
  obtain ⟨tx, okx, rx⟩ := repr_d ho.i (Nat.le_trans ho.z (by decide)) (Nat.le_trans ho.d (by decide))
  have hd : dpL h ≤ 30 := Nat.le_trans ho.d (by decide)
  have tg : ∀ e, chL 0 0 h = .error e → strOk e.1 = true := fun e he => (er_tag (chL_er h he)).2.1
  unfold Lw
  refine wpS_seq ?_
  rw [c_law_13]
  refine wpS_asg (d := .tup [.str tx, dueE (chL 0 0 h)]) (tp2 (.app (.one (.var rfl)) (rx cs)) (.app (.one (.var rfl)) fun Q X k => ⟨h, rfl, ho.i, Nat.le_trans ho.d (by decide), Nat.le_trans ho.z (by decide), k⟩)) (σ' := [some .scr, some (.ref n), a2, a3, a4, a5, a6, some (.str tx), some (dueE (chL 0 0 h)), a9, a10, a11, some (.lst (gDs h)), a13, a14]) rfl ?_
  dsimp only
  refine wpS_seq ?_
  rw [c_law_15]
  refine wpS_iff (.or_f (.not (k := true) (.app (.two (d := dueN (chL 0 0 h)) (d' := dueN (chL 0 0 h)) (fun Q X k => ?_) (.app (.two (tp1 .con) (.var rfl)) dueN_eq)) fun Q X k => spSR_p (k := 3) (dueN_pur tg) k)) (.app (.two (.app (.one (.var rfl)) (rx cs)) (.var rfl)) fun Q X k => ne_s okx okx _ _ (by rw [beq_self_eq_true]; exact k))) (wpS_skip ?_)
  · rw [out_app]
    exact (Evs.one (d := sqD false (gDs h)) (.var rfl)) _ _ (chk_out ho.i hd k)
  dsimp only
  refine wpS_seq ?_
  rw [c_law_17]
  refine wpS_iff (.not (k := true) (.app (.two (d := dueE (chL 0 0 h)) (d' := dueE (chL 0 0 h)) (fun Q X k => ?_) (.var rfl)) fun Q X k => spSR_p (k := 3) (due_pur tg 2) k)) (wpS_skip ?_)
  · rw [out_appk]
    refine Evs.nil _ _ ?_
    refine (Evs.one (d := .tup (gDs h)) (.app (.one (.var rfl)) fun Q X k => k)) _ _ ⟨rfl, rfl, ?_⟩
    exact chk_out (b := true) ho.i hd k
  dsimp only
  refine wpS_seq ?_
  rw [c_law_18]
  simp only [wpS, wpE, wpEs, getV, List.set, sListM_e]
  refine ⟨show 3 ≤ 16777216 by decide, fun m hm => ?_⟩
  simp only [bindP, List.set]
  rw [c_law_19]
  simp only [wpS, wpE, wpEs, getV, List.set, sList_e]
  refine ⟨show 3 ≤ 16777216 by decide, ?_⟩
  refine ⟨.ref m, .lst _, [.clo 0 t0 cl, .clo 1 t1 cl, .clo 2 t2 cl], [.clo 3 t3 cl, .clo 4 t4 cl, .clo 5 t5 cl], rfl, by simp only [getL, put_same], rfl, show 3 + 3 ≤ 16777216 by decide, fun m2 hm2 => ?_⟩
  have cm : cs m2 = none := ((Le.refl cs).put hm).none hm2
  have le1 : Le cs (put cs m (.lst [.clo 0 t0 cl, .clo 1 t1 cl, .clo 2 t2 cl])) := (Le.refl cs).put hm
  generalize put cs m (.lst [.clo 0 t0 cl, .clo 1 t1 cl, .clo 2 t2 cl]) = c1 at hm2 le1
  simp only [bindP, List.set]
  rw [c_law_20]
  simp only [wpS, wpE, wpEs, getV, List.set]
  refine ⟨by unfold chkL; simp [getL], ?_⟩
  refine app_r put_same (show 6 < 16777216 by decide) ?_
  rw [put_put]
  have le2 : Le cs (put c1 m2 (.lst ([.clo 0 t0 cl, .clo 1 t1 cl, .clo 2 t2 cl] ++ [.clo 3 t3 cl, .clo 4 t4 cl, .clo 5 t5 cl] ++ [.clo 6 t6 cl]))) := le1.put cm
  have ca : put c1 m2 (.lst ([.clo 0 t0 cl, .clo 1 t1 cl, .clo 2 t2 cl] ++ [.clo 3 t3 cl, .clo 4 t4 cl, .clo 5 t5 cl] ++ [.clo 6 t6 cl])) m2 = some (.lst [.clo 0 t0 cl, .clo 1 t1 cl, .clo 2 t2 cl, .clo 3 t3 cl, .clo 4 t4 cl, .clo 5 t5 cl, .clo 6 t6 cl]) := put_same
  generalize put c1 m2 (.lst ([.clo 0 t0 cl, .clo 1 t1 cl, .clo 2 t2 cl] ++ [.clo 3 t3 cl, .clo 4 t4 cl, .clo 5 t5 cl] ++ [.clo 6 t6 cl])) = c2 at le2 ca
  rw [c_law_22]
  cases he : chL 0 0 h with
  | ok p =>
    refine wpS_iff (.and_f (.app (.two (d := .str "") (.app (.two (.var rfl) .con) (ix_d rfl ix_0)) .con) fun Q X k => ne_s ok0 ok0 _ _ k)) (wpS_skip (hK _ _ le2 ⟨_, _, _, _, _, _, _, _, _, _, _, _, _, rfl⟩))
  | error e =>
    obtain ⟨tf, tok, nz⟩ := er_tag (chL_er h he)
    have bad : Bad (.lst (gDs h)) e := ⟨false, h, rfl, ho.i, hd, he⟩
    refine wpS_iff (.and_t (.app (.two (d := .str e.1) (.app (.two (.var rfl) .con) (ix_d rfl ix_0)) .con) fun Q X h => ne_s tok ok0 _ _ (by rw [nz]; exact h)) fun Q X k => ?_) (wpS_skip (hK _ _ le2 ⟨_, _, _, _, _, _, _, _, _, _, _, _, _, rfl⟩))
    rw [wpE, wpEs, wpE_comp]
    refine (Evs.one (d := .ref m2) (.var rfl)) _ _ ?_
    refine iSeq_q (xs := [.clo 0 t0 cl, .clo 1 t1 cl, .clo 2 t2 cl, .clo 3 t3 cl, .clo 4 t4 cl, .clo 5 t5 cl, .clo 6 t6 cl]) (getQ_cell ca) (compL_map (fun _ => .tup [.str e.1, .int e.2]) grdL_self [.clo 0 t0 cl, .clo 1 t1 cl, .clo 2 t2 cl, .clo 3 t3 cl, .clo 4 t4 cl, .clo 5 t5 cl, .clo 6 t6 cl] [] (fun d hd => ?_) (show 7 ≤ 16777216 by decide) ?_)
    · have hd : d = .clo 0 t0 cl ∨ d = .clo 1 t1 cl ∨ d = .clo 2 t2 cl ∨ d = .clo 3 t3 cl ∨ d = .clo 4 t4 cl ∨ d = .clo 5 t5 cl ∨ d = .clo 6 t6 cl := by simpa using hd
      rcases hd with rfl | rfl | rfl | rfl | rfl | rfl | rfl
      · exact ⟨_, rfl, fun K h => h, fun K h => ⟨rfl, rfl, _, e, rfl, bad, _, isEr_of tf, h⟩⟩
      · exact ⟨_, rfl, fun K h => h, fun K h => ⟨rfl, rfl, _, e, rfl, bad, _, isEr_of tf, h⟩⟩
      · exact ⟨_, rfl, fun K h => h, fun K h => ⟨rfl, rfl, _, e, rfl, bad, _, isEr_of tf, h⟩⟩
      · exact ⟨_, rfl, fun K h => h, fun K h => ⟨rfl, rfl, _, _, e, rfl, bad, _, isEr_of tf, h⟩⟩
      · exact ⟨_, rfl, fun K h => h, fun K h => ⟨rfl, rfl, ⟨show 1 ≤ 16777216 by decide, _, _, e, rfl, bad, _, isEr_of tf, h⟩⟩⟩
      · exact ⟨_, rfl, fun K h => h, fun K h => ⟨rfl, rfl, _, e, rfl, bad, _, isEr_of tf, h⟩⟩
      · exact ⟨_, rfl, fun K h => h, fun K h => ⟨rfl, rfl, ⟨show 0 ≤ 16777216 by decide, _, _, _, e, rfl, bad, _, isEr_of tf, h⟩⟩⟩
    · rw [if_neg Bool.false_ne_true, List.nil_append, wpEs, wpE]
      refine (Evs.two (d := .lst [dueE (.error e)]) (d' := .int 7) (.app (.one (.var (by rw [← he]; rfl))) (list_d (show 1 ≤ 16777216 by decide))) .con) _ _ ?_
      refine rep_e (by decide) (by decide) ?_
      rw [flat_rep, wpEs]
      show sNe [.lst (List.replicate 7 (.tup [.str e.1, .int e.2])), .lst (List.replicate 7 (.tup [.str e.1, .int e.2]))] c2 _ _
      refine sNe_self ?_ k
      show (decide ((List.replicate 7 (D.tup [.str e.1, .int e.2])).length ≤ lim) && purs 63 (List.replicate 7 (D.tup [.str e.1, .int e.2]))) = true
      rw [Bool.and_eq_true]
      refine ⟨decide_eq_true (show 7 ≤ 16777216 by decide), purs_of fun x hx => ?_⟩
      rw [(List.mem_replicate.mp hx).2]
      exact pur_tup2 (k := 62) (pur_str tok) pur_int
/-! ### the end -/
theorem comp_step {p : Pat} {grd : Cs → Prop} {σ σ1 : Sl} {tst elt : Sl → Cs → KD → Prop} {Q : List D → Cs → Prop} {cs : Cs} {x y : D} {xs acc : List D} (hg : grd cs) (hb : bindP p [x] σ = some σ1) (ht : ∀ K : KD, K (.bl true) cs → tst σ1 cs K) (he : ∀ K : KD, K y cs → elt σ1 cs K) (hl : acc.length < 16777216)
    (h : compL p grd σ tst elt Q xs (acc ++ [y]) cs) : compL p grd σ tst elt Q (x :: xs) acc cs := by
  refine ⟨hg, ?_⟩
  rw [hb]
  exact ht _ (.inl ⟨rfl, he _ ⟨hl, h⟩⟩)
def ones (k : Nat) : List Gp := List.replicate k (.nd 1)
def nest : List Gp := [.ts "repeat" 1 true [.ts "repeat" 1 true [.ts "repeat" 1 true [.ts "repeat" 1 true []]]]]
theorem ones_ch : ∀ (k pos : Nat), pos + k ≤ 100 → chL 0 pos (ones k) = .ok (pos + k)
  | 0, pos, _ => by simp [ones, chL]
  | k + 1, pos, h => by
    have ih := ones_ch k (pos + 1) (by omega)
    show (match chS 0 pos (.nd 1) with
      | .ok p => chL 0 p (ones k)
      | .error e => .error e) = _
    simp only [chS, if_neg (show ¬ pos = 100 by omega)]
    rw [ih]
    congr 1
    omega
theorem ones_er : ∀ (k pos : Nat), pos ≤ 100 → 100 < pos + k → chL 0 pos (ones k) = .error tooL
  | 0, pos, _, _ => by omega
  | k + 1, pos, h, h2 => by
    show (match chS 0 pos (.nd 1) with
      | .ok p => chL 0 p (ones k)
      | .error e => .error e) = _
    by_cases h3 : pos = 100
    · simp only [chS, if_pos h3]
    · simp only [chS, if_neg h3]
      exact ones_er k (pos + 1) (by omega) (by omega)
theorem nest_ch : chL 0 0 nest = .ok 4 := by
  have r : ∀ k : Nat, k < 4 → badT k (.ts "repeat" 1 true []) = false := by decide +kernel
  have b : ∀ (k : Nat) (ss : List Gp), badT k (.ts "repeat" 1 true ss) = badT k (.ts "repeat" 1 true []) := fun k ss => by simp only [badT]
  simp [nest, chL, chS, b, r]
theorem ones_in {k : Nat} : inGL (ones k) := inGL_mem.mpr fun g hg => by
  rw [(List.mem_replicate.mp hg).2]
  exact bigc (by decide)
theorem ones_dp {k : Nat} : dpL (ones k) ≤ 30 := dpL_le _ fun g hg => by
  rw [(List.mem_replicate.mp hg).2]
  simp [dpS]
theorem ones_ev {k : Nat} {σ : Sl} {cs : Cs} (hk : k ≤ 1000) : Ev (.app sRep (.cons (.app sList (.cons (.c (.int 1)) .nil)) (.cons (.c (.int (k : Nat))) .nil))) σ cs (.lst (gDs (ones k))) :=
  .app (.two (.app (.one .con) (list_d (show 1 ≤ 16777216 by decide))) .con) fun Q X h => ⟨by omega, by omega, show 1 * _ ≤ 16777216 by omega, by
    rw [flat_rep, Int.toNat_natCast]
    have e : List.replicate k (D.int 1) = gDs (ones k) := by rw [gDs_map]; unfold ones; rw [List.map_replicate]; rfl
    rw [e]
    exact h⟩
theorem rp {σ : Sl} {cs : Cs} {e : E} {x : D} (h : Ev e σ cs (.tup [x])) : Ev (.app sTup (.cons (.app sTup (.cons (.c (.str "repeat")) (.cons (.c (.int 1)) (.cons e .nil)))) .nil)) σ cs (.tup [.tup [.str "repeat", .int 1, .tup [x]]]) := tp1 (tp3 .con .con h)
theorem nest_ev {σ : Sl} {cs : Cs} : Ev (.app sList (.cons (.app sTup (.cons (.c (.str "repeat")) (.cons (.c (.int 1)) (.cons (.app sTup (.cons (.app sTup (.cons (.c (.str "repeat")) (.cons (.c (.int 1)) (.cons (.app sTup (.cons (.app sTup (.cons (.c (.str "repeat")) (.cons (.c (.int 1)) (.cons (.app sTup (.cons (.app sTup (.cons (.c (.str "repeat")) (.cons (.c (.int 1)) (.cons (.app sTup .nil) .nil)))) .nil)) .nil)))) .nil)) .nil)))) .nil)) .nil)))) .nil)) σ cs (.lst (gDs nest)) :=
  .app (.one (tp3 .con .con (tp1 (tp3 .con .con (tp1 (tp3 .con .con (tp1 (tp3 .con .con tp0)))))))) (list_d (show 1 ≤ 16777216 by decide))
theorem eq_self {x : D} {cs : Cs} (hx : deref cs x = x) (h : pur 64 x = true) : SpD sEq [x, x] cs (.bl true) := fun Q X k => sEq_self (by rw [hx]; exact h) k
def spFalse : G.Spec := fun _ _ _ _ => False
theorem ok_F {n : Nat} {core : G.S} : okFn n core spFalse := fun _ _ _ _ h => False.elim h
theorem ok_law (cl : List (Str × Nat)) (t0 t1 t2 t3 t4 t5 t6 : LamT) : okFn 15 (Lw cl t0 t1 t2 t3 t4 t5 t6 c_law) spLaw := by
  rintro ds cs Q X ⟨rfl, hQ⟩
  show wpS (.seq (Lw cl t0 t1 t2 t3 t4 t5 t6 c_law_1) (.seq (Lw cl t0 t1 t2 t3 t4 t5 t6 c_law_23) (.seq (Lw cl t0 t1 t2 t3 t4 t5 t6 c_law_24) (.seq (Lw cl t0 t1 t2 t3 t4 t5 t6 c_law_25) (Lw cl t0 t1 t2 t3 t4 t5 t6 c_law_26))))) [some .scr, none, none, none, none, none, none, none, none, none, none, none, none, none, none] cs _
  refine wpS_seq ?_
  unfold Lw
  rw [c_law_1]
  simp only [wpS, wpE, wpEs, bindP, getV, List.set, spStart_e]
  intro n hn
  have hc : put cs n .drw n = some .drw := put_same
  generalize put cs n .drw = cs at hc
  rw [c_law_23]
  refine wpS_for (.one .con) ?_
  refine rng1_inv (fun j σ c => c n = some .drw ∧ St n σ) (by omega) (by omega) ⟨hc, _, _, _, _, _, _, _, _, _, _, _, _, _, rfl⟩ ?_ ?_
  · rintro j σ c hj ⟨hc, a2, a3, a4, a5, a6, a7, a8, a9, a10, a11, a12, a13, a14, rfl⟩ K' h1 h2 h3 h4 h5
    simp only [List.set]
    refine draw (cl := cl) (t0 := t0) (t1 := t1) (t2 := t2) (t3 := t3) (t4 := t4) (t5 := t5) (t6 := t6) hc fun h b3 b4 b5 b6 ho => ?_
    exact judge ho fun σ c' le st => h1 _ _ ⟨le _ _ hc, st⟩
  rintro σ c ⟨hc, a2, a3, a4, a5, a6, a7, a8, a9, a10, a11, a12, a13, a14, rfl⟩
  dsimp only
  rw [c_law_24]
  refine wpS_asg (d := .lst [.lst (gDs (ones 100)), .lst (gDs (ones 101)), .lst (gDs nest)]) (.app (.three (ones_ev (k := 100) (by decide)) (ones_ev (k := 101) (by decide)) nest_ev) (list_d (show 3 ≤ 16777216 by decide))) rfl ?_
  dsimp only [List.set]
  rw [c_law_25]
  refine wpS_asg (d := .lst [.tup [.str "", .non], .tup [.str "TooLong", .int 100], .tup [.str "", .non]]) (fun Q X k => ?_) rfl ?_
  · rw [wpE_comp]
    refine (Evs.one (d := .lst [.lst (gDs (ones 100)), .lst (gDs (ones 101)), .lst (gDs nest)]) (.var rfl)) _ _ ?_
    refine iSeq_e (.inl rfl) ?_
    refine comp_step (σ1 := _) trivial rfl (fun K h => by rw [wpE_c]; exact h) (y := .tup [.str "", .non]) (fun K h => ?_) (show 0 < 16777216 by decide) ?_
    · rw [out_app]
      exact (Evs.one (d := sqD false (gDs (ones 100))) (.var (i := 13) rfl)) _ _ (chk_out ones_in ones_dp (by rw [ones_ch 100 0 (by decide)]; exact h))
    refine comp_step (σ1 := _) trivial rfl (fun K h => by rw [wpE_c]; exact h) (y := .tup [.str "TooLong", .int 100]) (fun K h => ?_) (show 1 < 16777216 by decide) ?_
    · rw [out_app]
      exact (Evs.one (d := sqD false (gDs (ones 101))) (.var (i := 13) rfl)) _ _ (chk_out ones_in ones_dp (by rw [ones_er 101 0 (by decide) (by decide)]; exact h))
    refine comp_step (σ1 := _) trivial rfl (fun K h => by rw [wpE_c]; exact h) (y := .tup [.str "", .non]) (fun K h => ?_) (show 2 < 16777216 by decide) ?_
    · rw [out_app]
      exact (Evs.one (d := sqD false (gDs nest)) (.var (i := 13) rfl)) _ _ (chk_out (by simp [nest, inGL, inG, wR, bigc]) (by simp [nest, dpL, dpS]) (by rw [nest_ch]; exact h))
    refine ⟨trivial, ?_⟩
    dsimp only
    rw [if_neg Bool.false_ne_true]
    exact k
  dsimp only [List.set]
  rw [c_law_26]
  exact wpS_ret (d := .bl true) (.and_t (.app (.two (.var rfl) (.app (.three (tp2 .con .con) (tp2 .con .con) (tp2 .con .con)) (list_d (show 3 ≤ 16777216 by decide)))) (eq_self rfl (by decide +kernel))) (.app (.two (d := .lst [.int 100, .int 4]) (.app (.two .con .con) (list_d (show 2 ≤ 16777216 by decide))) (.app (.two .con .con) (list_d (show 2 ≤ 16777216 by decide)))) (eq_self rfl (by decide +kernel)))) (hQ _)
end
end K11

/-! GRunJ: the top's run looked at in parts. -/
namespace G
theorem run_join {α β γ δ : Type} {x : Option α} {f : α → β} {g : α → γ} {o : α → δ × Bool} {b : β} {c : γ} {d : δ} (h1 : x.map (fun s => (f s, g s)) = some (b, c)) (h2 : x.map (fun s => (o s).1) = some d) (h3 : x.map (fun s => (o s).2) = some true) : x.map (fun s => (f s, g s, o s)) = some (b, c, (d, true)) := by
  cases x with
  | none => cases h1
  | some s =>
    have e1 := Option.some.inj h1
    have e2 := Option.some.inj h2
    have e3 := Option.some.inj h3
    have a1 : f s = b := congrArg (·.1) e1
    have a2 : g s = c := congrArg (·.2) e1
    have a3 : o s = (d, true) := Prod.ext e2 e3
    show some (f s, g s, o s) = _
    rw [a1, a2, a3]
theorem run_bools {α : Type} {x : Option α} {a b c d : α → Bool} (h1 : x.map (fun s => (a s && c s) && d s) = some true) (h2 : x.map b = some true) : x.map (fun s => (a s && (b s && c s)) && d s) = some true := by
  cases x with
  | none => cases h1
  | some s =>
    have e1 : ((a s && c s) && d s) = true := Option.some.inj h1
    have e2 : b s = true := Option.some.inj h2
    show some ((a s && (b s && c s)) && d s) = _
    rw [e2, Bool.true_and, e1]
end G

namespace K11
open PySem PySem.Spec PyProof.Rows L2 G
abbrev s__law_field : Stmt := top 45
theorem sc__law_field : FnScope ["_law_e"] ["_law_e"] (defScope s__law_field) := ⟨rfl, rfl, rfl, by decide +kernel, rfl, by decide +kernel, by decide +kernel⟩
abbrev s__law_outcome : Stmt := top 46
theorem sc__law_outcome : FnScope ["_law_ask", "_law_answer", "_law_tag", "_law_field_here", "_law_e"] ["_law_ask"] (defScope s__law_outcome) := ⟨rfl, rfl, rfl, by decide +kernel, rfl, by decide +kernel, by decide +kernel⟩
abbrev s__law_error : Stmt := top 47
theorem sc__law_error : FnScope ["_law_ask"] ["_law_ask"] (defScope s__law_error) := ⟨rfl, rfl, rfl, by decide +kernel, rfl, by decide +kernel, by decide +kernel⟩
abbrev s_BadStep : Stmt := (clsBody (top 5)).getD 0 (.Pass ⟨0, 0, 0, 0⟩)
theorem sc_BadStep : FnScope ["self", "pos"] ["self", "pos"] (defScope s_BadStep) := ⟨rfl, rfl, rfl, by decide +kernel, rfl, by decide +kernel, by decide +kernel⟩
abbrev s_NoNode : Stmt := (clsBody (top 7)).getD 0 (.Pass ⟨0, 0, 0, 0⟩)
theorem sc_NoNode : FnScope ["self", "node"] ["self", "node"] (defScope s_NoNode) := ⟨rfl, rfl, rfl, by decide +kernel, rfl, by decide +kernel, by decide +kernel⟩
abbrev s_NotRoot : Stmt := (clsBody (top 3)).getD 0 (.Pass ⟨0, 0, 0, 0⟩)
theorem sc_NotRoot : FnScope ["self", "node"] ["self", "node"] (defScope s_NotRoot) := ⟨rfl, rfl, rfl, by decide +kernel, rfl, by decide +kernel, by decide +kernel⟩
abbrev s_TooLong : Stmt := (clsBody (top 6)).getD 0 (.Pass ⟨0, 0, 0, 0⟩)
theorem sc_TooLong : FnScope ["self", "limit"] ["self", "limit"] (defScope s_TooLong) := ⟨rfl, rfl, rfl, by decide +kernel, rfl, by decide +kernel, by decide +kernel⟩
def d_need_node : He.DefD := ⟨("need_node", none), "need_node", "need_node", defArgs s_need_node, defBody s_need_node, defScope s_need_node, [], []⟩
def d_path_of : He.DefD := ⟨("path_of", none), "path_of", "path_of", defArgs s_path_of, defBody s_path_of, defScope s_path_of, [], []⟩
def d_compressed : He.DefD := ⟨("compressed", none), "compressed", "compressed", defArgs s_compressed, defBody s_compressed, defScope s_compressed, [], []⟩
def d_find : He.DefD := ⟨("find", none), "find", "find", defArgs s_find, defBody s_find, defScope s_find, [], []⟩
def d_need_root : He.DefD := ⟨("need_root", none), "need_root", "need_root", defArgs s_need_root, defBody s_need_root, defScope s_need_root, [], []⟩
def d_link : He.DefD := ⟨("link", none), "link", "link", defArgs s_link, defBody s_link, defScope s_link, [], []⟩
def d_check_tuple : He.DefD := ⟨("check_tuple", none), "check_tuple", "check_tuple", defArgs s_check_tuple, defBody s_check_tuple, defScope s_check_tuple, [], []⟩
def d_check_steps : He.DefD := ⟨("check_steps", none), "check_steps", "check_steps", defArgs s_check_steps, defBody s_check_steps, defScope s_check_steps, [], []⟩
def d_check_history : He.DefD := ⟨("check_history", none), "check_history", "check_history", defArgs s_check_history, defBody s_check_history, defScope s_check_history, [], []⟩
def d_count_steps : He.DefD := ⟨("count_steps", none), "count_steps", "count_steps", defArgs s_count_steps, defBody s_count_steps, defScope s_count_steps, [], []⟩
def d_count_finds : He.DefD := ⟨("count_finds", none), "count_finds", "count_finds", defArgs s_count_finds, defBody s_count_finds, defScope s_count_finds, [], []⟩
def d_note_found : He.DefD := ⟨("note_found", none), "note_found", "note_found", defArgs s_note_found, defBody s_note_found, defScope s_note_found, [], []⟩
def d_found_nodes : He.DefD := ⟨("found_nodes", none), "found_nodes", "found_nodes", defArgs s_found_nodes, defBody s_found_nodes, defScope s_found_nodes, [], []⟩
def d_with_tuples : He.DefD := ⟨("with_tuples", none), "with_tuples", "with_tuples", defArgs s_with_tuples, defBody s_with_tuples, defScope s_with_tuples, [], []⟩
def d_epochs : He.DefD := ⟨("epochs", none), "epochs", "epochs", defArgs s_epochs, defBody s_epochs, defScope s_epochs, [], []⟩
def d_unrolled : He.DefD := ⟨("unrolled", none), "unrolled", "unrolled", defArgs s_unrolled, defBody s_unrolled, defScope s_unrolled, [], []⟩
def d_unroll : He.DefD := ⟨("unroll", none), "unroll", "unroll", defArgs s_unroll, defBody s_unroll, defScope s_unroll, [], [("limit", .int 1000)]⟩
def d_run_round : He.DefD := ⟨("run_round", none), "run_round", "run_round", defArgs s_run_round, defBody s_run_round, defScope s_run_round, [], []⟩
def d_run_history : He.DefD := ⟨("run_history", none), "run_history", "run_history", defArgs s_run_history, defBody s_run_history, defScope s_run_history, [], []⟩
def d_effect_difference : He.DefD := ⟨("effect_difference", none), "effect_difference", "effect_difference", defArgs s_effect_difference, defBody s_effect_difference, defScope s_effect_difference, [], []⟩
def d_format_step : He.DefD := ⟨("format_step", none), "format_step", "format_step", defArgs s_format_step, defBody s_format_step, defScope s_format_step, [], []⟩
def d_format_steps : He.DefD := ⟨("format_steps", none), "format_steps", "format_steps", defArgs s_format_steps, defBody s_format_steps, defScope s_format_steps, [], []⟩
def d_format_history : He.DefD := ⟨("format_history", none), "format_history", "format_history", defArgs s_format_history, defBody s_format_history, defScope s_format_history, [], []⟩
def d__law_start : He.DefD := ⟨("_law_start", none), "_law_start", "_law_start", defArgs s__law_start, defBody s__law_start, defScope s__law_start, [], []⟩
def d__law_take : He.DefD := ⟨("_law_take", none), "_law_take", "_law_take", defArgs s__law_take, defBody s__law_take, defScope s__law_take, [], []⟩
def d__law_of : He.DefD := ⟨("_law_of", none), "_law_of", "_law_of", defArgs s__law_of, defBody s__law_of, defScope s__law_of, [], []⟩
def d__law_same : He.DefD := ⟨("_law_same", none), "_law_same", "_law_same", defArgs s__law_same, defBody s__law_same, defScope s__law_same, [], []⟩
def d__law_step : He.DefD := ⟨("_law_step", none), "_law_step", "_law_step", defArgs s__law_step, defBody s__law_step, defScope s__law_step, [], []⟩
def d__law_rounds : He.DefD := ⟨("_law_rounds", none), "_law_rounds", "_law_rounds", defArgs s__law_rounds, defBody s__law_rounds, defScope s__law_rounds, [], []⟩
def d__law_odd_step : He.DefD := ⟨("_law_odd_step", none), "_law_odd_step", "_law_odd_step", defArgs s__law_odd_step, defBody s__law_odd_step, defScope s__law_odd_step, [], []⟩
def d__law_bent : He.DefD := ⟨("_law_bent", none), "_law_bent", "_law_bent", defArgs s__law_bent, defBody s__law_bent, defScope s__law_bent, [], []⟩
def d__law_fault : He.DefD := ⟨("_law_fault", none), "_law_fault", "_law_fault", defArgs s__law_fault, defBody s__law_fault, defScope s__law_fault, [], []⟩
def d_law : He.DefD := ⟨("law", none), "law", "law", defArgs s_law, defBody s_law, defScope s_law, [], []⟩
def d__law_field : He.DefD := ⟨("_law_field", none), "_law_field", "_law_field", defArgs s__law_field, defBody s__law_field, defScope s__law_field, [], []⟩
def d__law_outcome : He.DefD := ⟨("_law_outcome", none), "_law_outcome", "_law_outcome", defArgs s__law_outcome, defBody s__law_outcome, defScope s__law_outcome, [], []⟩
def d__law_error : He.DefD := ⟨("_law_error", none), "_law_error", "_law_error", defArgs s__law_error, defBody s__law_error, defScope s__law_error, [], []⟩
def d_BadStep : He.DefD := ⟨("BadStep", some "__init__"), "__init__", "BadStep.__init__", defArgs s_BadStep, defBody s_BadStep, defScope s_BadStep, [], []⟩
def d_NoNode : He.DefD := ⟨("NoNode", some "__init__"), "__init__", "NoNode.__init__", defArgs s_NoNode, defBody s_NoNode, defScope s_NoNode, [], []⟩
def d_NotRoot : He.DefD := ⟨("NotRoot", some "__init__"), "__init__", "NotRoot.__init__", defArgs s_NotRoot, defBody s_NotRoot, defScope s_NotRoot, [], []⟩
def d_TooLong : He.DefD := ⟨("TooLong", some "__init__"), "__init__", "TooLong.__init__", defArgs s_TooLong, defBody s_TooLong, defScope s_TooLong, [], []⟩
def fn : List He.DefD := [d_need_node, d_path_of, d_compressed, d_find, d_need_root, d_link, d_check_tuple, d_check_steps, d_check_history, d_count_steps, d_count_finds, d_note_found, d_found_nodes, d_with_tuples, d_epochs, d_unrolled, d_unroll, d_run_round, d_run_history, d_effect_difference, d_format_step, d_format_steps, d_format_history, d__law_start, d__law_take, d__law_of, d__law_same, d__law_step, d__law_rounds, d__law_odd_step, d__law_bent, d__law_fault, d_law, d__law_field, d__law_outcome, d__law_error, d_BadStep, d_NoNode, d_NotRoot, d_TooLong]
def tf : List He.Defn := [(("need_node" : Str), (none : Option Str)), (("path_of" : Str), (none : Option Str)), (("compressed" : Str), (none : Option Str)), (("find" : Str), (none : Option Str)), (("need_root" : Str), (none : Option Str)), (("link" : Str), (none : Option Str)), (("check_tuple" : Str), (none : Option Str)), (("check_steps" : Str), (none : Option Str)), (("check_history" : Str), (none : Option Str)), (("count_steps" : Str), (none : Option Str)), (("count_finds" : Str), (none : Option Str)), (("note_found" : Str), (none : Option Str)), (("found_nodes" : Str), (none : Option Str)), (("with_tuples" : Str), (none : Option Str)), (("epochs" : Str), (none : Option Str)), (("unrolled" : Str), (none : Option Str)), (("unroll" : Str), (none : Option Str)), (("run_round" : Str), (none : Option Str)), (("run_history" : Str), (none : Option Str)), (("effect_difference" : Str), (none : Option Str)), (("format_step" : Str), (none : Option Str)), (("format_steps" : Str), (none : Option Str)), (("format_history" : Str), (none : Option Str)), (("_law_start" : Str), (none : Option Str)), (("_law_take" : Str), (none : Option Str)), (("_law_of" : Str), (none : Option Str)), (("_law_same" : Str), (none : Option Str)), (("_law_step" : Str), (none : Option Str)), (("_law_rounds" : Str), (none : Option Str)), (("_law_odd_step" : Str), (none : Option Str)), (("_law_bent" : Str), (none : Option Str)), (("_law_fault" : Str), (none : Option Str)), (("law" : Str), (none : Option Str)), (("_law_field" : Str), (none : Option Str)), (("_law_outcome" : Str), (none : Option Str)), (("_law_error" : Str), (none : Option Str)), (("NotRoot" : Str), some ("__init__" : Str)), (("SameRoot" : Str), some ("__init__" : Str)), (("BadStep" : Str), some ("__init__" : Str)), (("TooLong" : Str), some ("__init__" : Str)), (("NoNode" : Str), some ("__init__" : Str)), (("EmptyHistory" : Str), some ("__init__" : Str))]
def fa : List He.Fa := [.glo "need_node", .glo "path_of", .glo "compressed", .glo "find", .glo "need_root", .glo "link", .glo "check_tuple", .glo "check_steps", .glo "check_history", .glo "count_steps", .glo "count_finds", .glo "note_found", .glo "found_nodes", .glo "with_tuples", .glo "epochs", .glo "unrolled", .glo "unroll", .glo "run_round", .glo "run_history", .glo "effect_difference", .glo "format_step", .glo "format_steps", .glo "format_history", .glo "_law_start", .glo "_law_take", .glo "_law_of", .glo "_law_same", .glo "_law_step", .glo "_law_rounds", .glo "_law_odd_step", .glo "_law_bent", .glo "_law_fault", .glo "law", .glo "_law_field", .glo "_law_outcome", .glo "_law_error", .glo "BadStep", .glo "NoNode", .glo "NotRoot", .glo "TooLong", .free "all", .free "bool", .free "enumerate", .free "int", .free "isinstance", .free "len", .free "list", .free "range", .free "repr", .free "str", .free "tuple", .free "zip", .int "COUNT_LIMIT" 1000000000000000000000000000000, .int "MAX_NESTING" 4, .int "MAX_STEPS" 100]
def ex (K : PySem.W.Frag) : Bool := tabsB tf K && (tabsU K && (errsB K && (clsCB K "BadStep" "pos" && (clsCB K "NoNode" "node" && (clsCB K "NotRoot" "node" && (clsCB K "TooLong" "limit"))))))
abbrev R : PySem.W.OpenRow := PySem.W.OpenLaw.row PySem.Challenge.rw_findforests_k11_histories_checked
abbrev hk : PySem.W.Hook := He.hookX 5 fa fn [] tf ex
def ob (s : PySem.W.SharedT) : He.AlX := He.obsX 5 fa fn [] tf ex (HandSHeadRun.getT s)
theorem ob_eq (s : PySem.W.SharedT) : ob s = hk.obs s.abs := He.obsX_eq (HandSHeadRun.getT_eq s)
abbrev KK (s : PySem.W.SharedT) : PySem.W.Frag := He.frT (HandSHeadRun.getT s) (He.asD (HandSHeadRun.getT s) 5)
def ex3 (K : PySem.W.Frag) : Bool := (errsB K && (clsCB K "BadStep" "pos" && (clsCB K "NoNode" "node" && (clsCB K "NotRoot" "node" && (clsCB K "TooLong" "limit")))))
open HandSHeadRun PySem.W in
theorem run_a (w : World) (os : OsState) : (HandSHeadRun.endF (HandSHeadRun.stepQ (HandSHeadRun.denQ HandSHeadRun.tabQ) R.prog w) 4000 R.prog w os).map (fun s => (looksF R.prog (boot_heap w.params) s.abs, seenQ (PySem.W.view R.prog [53]) ("__name__" :: "ForestError" :: "Missing" :: "NotRoot" :: "SameRoot" :: "BadStep" :: "TooLong" :: "NoNode" :: "EmptyHistory" :: "need_node" :: "path_of" :: "compressed" :: "find" :: "need_root" :: "link" :: "MAX_STEPS" :: "MAX_NESTING" :: "COUNT_LIMIT" :: "UNROLL_LIMIT" :: "check_tuple" :: "check_steps" :: "check_history" :: "count_steps" :: "count_finds" :: "note_found" :: "found_nodes" :: "with_tuples" :: "epochs" :: "unrolled" :: "unroll" :: "run_round" :: "run_history" :: "effect_difference" :: "format_step" :: "format_steps" :: "format_history" :: "_law_start" :: "_law_take" :: "_law_of" :: "_law_same" :: "_law_field" :: "_law_outcome" :: "_law_error" :: "_law_step" :: "_law_rounds" :: "_law_odd_step" :: "_law_bent" :: "_law_fault" :: []) (importedModules R.prog.main.body) (fun s => xlAt (PySem.W.view R.prog [53]) [] s && recOk R.toRowW.records s) s.abs)) = some (true, openGood (PySem.W.view R.prog [53]) ("__name__" :: "ForestError" :: "Missing" :: "NotRoot" :: "SameRoot" :: "BadStep" :: "TooLong" :: "NoNode" :: "EmptyHistory" :: "need_node" :: "path_of" :: "compressed" :: "find" :: "need_root" :: "link" :: "MAX_STEPS" :: "MAX_NESTING" :: "COUNT_LIMIT" :: "UNROLL_LIMIT" :: "check_tuple" :: "check_steps" :: "check_history" :: "count_steps" :: "count_finds" :: "note_found" :: "found_nodes" :: "with_tuples" :: "epochs" :: "unrolled" :: "unroll" :: "run_round" :: "run_history" :: "effect_difference" :: "format_step" :: "format_steps" :: "format_history" :: "_law_start" :: "_law_take" :: "_law_of" :: "_law_same" :: "_law_field" :: "_law_outcome" :: "_law_error" :: "_law_step" :: "_law_rounds" :: "_law_odd_step" :: "_law_bent" :: "_law_fault" :: [])) := by
  kernel_rfl
theorem run_b (w : World) (os : OsState) : (HandSHeadRun.endF (HandSHeadRun.stepQ (HandSHeadRun.denQ HandSHeadRun.tabQ) R.prog w) 4000 R.prog w os).map (fun s => (ob s).1) = some (hk.val w).1 := by
  kernel_rfl
theorem run_c1 (w : World) (os : OsState) : (HandSHeadRun.endF (HandSHeadRun.stepQ (HandSHeadRun.denQ HandSHeadRun.tabQ) R.prog w) 4000 R.prog w os).map (fun s => (tabsB tf (KK s) && ex3 (KK s)) && He.tabsB (HandSHeadRun.getT s) tf (KK s)) = some true := by
  kernel_rfl
theorem run_c2 (w : World) (os : OsState) : (HandSHeadRun.endF (HandSHeadRun.stepQ (HandSHeadRun.denQ HandSHeadRun.tabQ) R.prog w) 4000 R.prog w os).map (fun s => tabsU (KK s)) = some true := by
  kernel_rfl
theorem ob2 (s : PySem.W.SharedT) : (ob s).2 = ((tabsB tf (KK s) && (tabsU (KK s) && ex3 (KK s))) && He.tabsB (HandSHeadRun.getT s) tf (KK s)) := by
  kernel_rfl
theorem run_c (w : World) (os : OsState) : (HandSHeadRun.endF (HandSHeadRun.stepQ (HandSHeadRun.denQ HandSHeadRun.tabQ) R.prog w) 4000 R.prog w os).map (fun s => (ob s).2) = some true := by
  have e : (fun s => (ob s).2) = _ := funext ob2
  rw [e]
  exact run_bools (run_c1 w os) (run_c2 w os)
open HandSHeadRun PySem.W in
theorem run_z (w : World) (os : OsState) : (HandSHeadRun.endF (HandSHeadRun.stepQ (HandSHeadRun.denQ HandSHeadRun.tabQ) R.prog w) 4000 R.prog w os).map (fun s => (looksF R.prog (boot_heap w.params) s.abs, seenQ (PySem.W.view R.prog [53]) ("__name__" :: "ForestError" :: "Missing" :: "NotRoot" :: "SameRoot" :: "BadStep" :: "TooLong" :: "NoNode" :: "EmptyHistory" :: "need_node" :: "path_of" :: "compressed" :: "find" :: "need_root" :: "link" :: "MAX_STEPS" :: "MAX_NESTING" :: "COUNT_LIMIT" :: "UNROLL_LIMIT" :: "check_tuple" :: "check_steps" :: "check_history" :: "count_steps" :: "count_finds" :: "note_found" :: "found_nodes" :: "with_tuples" :: "epochs" :: "unrolled" :: "unroll" :: "run_round" :: "run_history" :: "effect_difference" :: "format_step" :: "format_steps" :: "format_history" :: "_law_start" :: "_law_take" :: "_law_of" :: "_law_same" :: "_law_field" :: "_law_outcome" :: "_law_error" :: "_law_step" :: "_law_rounds" :: "_law_odd_step" :: "_law_bent" :: "_law_fault" :: []) (importedModules R.prog.main.body) (fun s => xlAt (PySem.W.view R.prog [53]) [] s && recOk R.toRowW.records s) s.abs, ob s)) = some (true, openGood (PySem.W.view R.prog [53]) ("__name__" :: "ForestError" :: "Missing" :: "NotRoot" :: "SameRoot" :: "BadStep" :: "TooLong" :: "NoNode" :: "EmptyHistory" :: "need_node" :: "path_of" :: "compressed" :: "find" :: "need_root" :: "link" :: "MAX_STEPS" :: "MAX_NESTING" :: "COUNT_LIMIT" :: "UNROLL_LIMIT" :: "check_tuple" :: "check_steps" :: "check_history" :: "count_steps" :: "count_finds" :: "note_found" :: "found_nodes" :: "with_tuples" :: "epochs" :: "unrolled" :: "unroll" :: "run_round" :: "run_history" :: "effect_difference" :: "format_step" :: "format_steps" :: "format_history" :: "_law_start" :: "_law_take" :: "_law_of" :: "_law_same" :: "_law_field" :: "_law_outcome" :: "_law_error" :: "_law_step" :: "_law_rounds" :: "_law_odd_step" :: "_law_bent" :: "_law_fault" :: []), ((hk.val w).1, true)) := by
  have h := run_join (run_a w os) (run_b w os) (run_c w os)
  exact h
theorem run (w : World) : HandSHeadRun.RunEq R (PySem.W.view R.prog [53]) hk ob 4000 ("__name__" :: "ForestError" :: "Missing" :: "NotRoot" :: "SameRoot" :: "BadStep" :: "TooLong" :: "NoNode" :: "EmptyHistory" :: "need_node" :: "path_of" :: "compressed" :: "find" :: "need_root" :: "link" :: "MAX_STEPS" :: "MAX_NESTING" :: "COUNT_LIMIT" :: "UNROLL_LIMIT" :: "check_tuple" :: "check_steps" :: "check_history" :: "count_steps" :: "count_finds" :: "note_found" :: "found_nodes" :: "with_tuples" :: "epochs" :: "unrolled" :: "unroll" :: "run_round" :: "run_history" :: "effect_difference" :: "format_step" :: "format_steps" :: "format_history" :: "_law_start" :: "_law_take" :: "_law_of" :: "_law_same" :: "_law_field" :: "_law_outcome" :: "_law_error" :: "_law_step" :: "_law_rounds" :: "_law_odd_step" :: "_law_bent" :: "_law_fault" :: []) w := by
  intro os
  refine @Eq.mpr _ _ ?_ (run_z w os)
  kernel_rfl
theorem facts {P : Program} {w : World} {K : PySem.W.Frag} {h : Heap} {mg : Str → Option Value} {f : Addr} (X : K.In h) (G : h.Ns mainGlobals mg) (hfa : mg ("law" : Str) = some (.ref f)) (cx : He.SaysX fa fn [] tf ex w h K) :
    ∃ fd : FuncData, (∀ (s : Shared) (u : Value), BindsTo s fd ⟨[u], []⟩ [("_law_script", u)]) ∧ ∀ base : Heap, K.In base → base.Ns mainGlobals mg → (∀ p ∈ tf.map (He.cT K), LamX.TabB base mg p.1 p.2) → FnOkG P w K mg base (L2N.CX P w) 43 f fd ["_law_script"] (lift K mg spLaw) := by
  have c := cx.t.d
  have e0 := (Bool.and_eq_true_iff.mp cx.more).2
  obtain ⟨eU, e1⟩ := Bool.and_eq_true_iff.mp e0
  obtain ⟨eE, e2⟩ := Bool.and_eq_true_iff.mp e1
  obtain ⟨e_BadStep, e3⟩ := Bool.and_eq_true_iff.mp e2
  obtain ⟨e_NoNode, e4⟩ := Bool.and_eq_true_iff.mp e3
  obtain ⟨e_NotRoot, e5⟩ := Bool.and_eq_true_iff.mp e4
  have e_TooLong := e5
  obtain ⟨fd_need_node, D_need_node⟩ := c.def_ 0 (d := d_need_node) rfl
  obtain ⟨fd_path_of, D_path_of⟩ := c.def_ 1 (d := d_path_of) rfl
  obtain ⟨fd_compressed, D_compressed⟩ := c.def_ 2 (d := d_compressed) rfl
  obtain ⟨fd_find, D_find⟩ := c.def_ 3 (d := d_find) rfl
  obtain ⟨fd_need_root, D_need_root⟩ := c.def_ 4 (d := d_need_root) rfl
  obtain ⟨fd_link, D_link⟩ := c.def_ 5 (d := d_link) rfl
  obtain ⟨fd_check_tuple, D_check_tuple⟩ := c.def_ 6 (d := d_check_tuple) rfl
  obtain ⟨fd_check_steps, D_check_steps⟩ := c.def_ 7 (d := d_check_steps) rfl
  obtain ⟨fd_check_history, D_check_history⟩ := c.def_ 8 (d := d_check_history) rfl
  obtain ⟨fd_count_steps, D_count_steps⟩ := c.def_ 9 (d := d_count_steps) rfl
  obtain ⟨fd_count_finds, D_count_finds⟩ := c.def_ 10 (d := d_count_finds) rfl
  obtain ⟨fd_note_found, D_note_found⟩ := c.def_ 11 (d := d_note_found) rfl
  obtain ⟨fd_found_nodes, D_found_nodes⟩ := c.def_ 12 (d := d_found_nodes) rfl
  obtain ⟨fd_with_tuples, D_with_tuples⟩ := c.def_ 13 (d := d_with_tuples) rfl
  obtain ⟨fd_epochs, D_epochs⟩ := c.def_ 14 (d := d_epochs) rfl
  obtain ⟨fd_unrolled, D_unrolled⟩ := c.def_ 15 (d := d_unrolled) rfl
  obtain ⟨fd_unroll, D_unroll⟩ := c.def_ 16 (d := d_unroll) rfl
  obtain ⟨fd_run_round, D_run_round⟩ := c.def_ 17 (d := d_run_round) rfl
  obtain ⟨fd_run_history, D_run_history⟩ := c.def_ 18 (d := d_run_history) rfl
  obtain ⟨fd_effect_difference, D_effect_difference⟩ := c.def_ 19 (d := d_effect_difference) rfl
  obtain ⟨fd_format_step, D_format_step⟩ := c.def_ 20 (d := d_format_step) rfl
  obtain ⟨fd_format_steps, D_format_steps⟩ := c.def_ 21 (d := d_format_steps) rfl
  obtain ⟨fd_format_history, D_format_history⟩ := c.def_ 22 (d := d_format_history) rfl
  obtain ⟨fd__law_start, D__law_start⟩ := c.def_ 23 (d := d__law_start) rfl
  obtain ⟨fd__law_take, D__law_take⟩ := c.def_ 24 (d := d__law_take) rfl
  obtain ⟨fd__law_of, D__law_of⟩ := c.def_ 25 (d := d__law_of) rfl
  obtain ⟨fd__law_same, D__law_same⟩ := c.def_ 26 (d := d__law_same) rfl
  obtain ⟨fd__law_step, D__law_step⟩ := c.def_ 27 (d := d__law_step) rfl
  obtain ⟨fd__law_rounds, D__law_rounds⟩ := c.def_ 28 (d := d__law_rounds) rfl
  obtain ⟨fd__law_odd_step, D__law_odd_step⟩ := c.def_ 29 (d := d__law_odd_step) rfl
  obtain ⟨fd__law_bent, D__law_bent⟩ := c.def_ 30 (d := d__law_bent) rfl
  obtain ⟨fd__law_fault, D__law_fault⟩ := c.def_ 31 (d := d__law_fault) rfl
  obtain ⟨fd_law, D_law⟩ := c.def_ 32 (d := d_law) rfl
  obtain ⟨fd__law_field, D__law_field⟩ := c.def_ 33 (d := d__law_field) rfl
  obtain ⟨fd__law_outcome, D__law_outcome⟩ := c.def_ 34 (d := d__law_outcome) rfl
  obtain ⟨fd__law_error, D__law_error⟩ := c.def_ 35 (d := d__law_error) rfl
  obtain ⟨fd_BadStep, D_BadStep⟩ := c.def_ 36 (d := d_BadStep) rfl
  obtain ⟨fd_NoNode, D_NoNode⟩ := c.def_ 37 (d := d_NoNode) rfl
  obtain ⟨fd_NotRoot, D_NotRoot⟩ := c.def_ 38 (d := d_NotRoot) rfl
  obtain ⟨fd_TooLong, D_TooLong⟩ := c.def_ 39 (d := d_TooLong) rfl
  have m_need_node : mg "need_node" = _ := He.glo_ok X G (c.fact 0 (f := .glo "need_node") rfl)
  have m_path_of : mg "path_of" = _ := He.glo_ok X G (c.fact 1 (f := .glo "path_of") rfl)
  have m_compressed : mg "compressed" = _ := He.glo_ok X G (c.fact 2 (f := .glo "compressed") rfl)
  have m_find : mg "find" = _ := He.glo_ok X G (c.fact 3 (f := .glo "find") rfl)
  have m_need_root : mg "need_root" = _ := He.glo_ok X G (c.fact 4 (f := .glo "need_root") rfl)
  have m_link : mg "link" = _ := He.glo_ok X G (c.fact 5 (f := .glo "link") rfl)
  have m_check_tuple : mg "check_tuple" = _ := He.glo_ok X G (c.fact 6 (f := .glo "check_tuple") rfl)
  have m_check_steps : mg "check_steps" = _ := He.glo_ok X G (c.fact 7 (f := .glo "check_steps") rfl)
  have m_check_history : mg "check_history" = _ := He.glo_ok X G (c.fact 8 (f := .glo "check_history") rfl)
  have m_count_steps : mg "count_steps" = _ := He.glo_ok X G (c.fact 9 (f := .glo "count_steps") rfl)
  have m_count_finds : mg "count_finds" = _ := He.glo_ok X G (c.fact 10 (f := .glo "count_finds") rfl)
  have m_note_found : mg "note_found" = _ := He.glo_ok X G (c.fact 11 (f := .glo "note_found") rfl)
  have m_found_nodes : mg "found_nodes" = _ := He.glo_ok X G (c.fact 12 (f := .glo "found_nodes") rfl)
  have m_with_tuples : mg "with_tuples" = _ := He.glo_ok X G (c.fact 13 (f := .glo "with_tuples") rfl)
  have m_epochs : mg "epochs" = _ := He.glo_ok X G (c.fact 14 (f := .glo "epochs") rfl)
  have m_unrolled : mg "unrolled" = _ := He.glo_ok X G (c.fact 15 (f := .glo "unrolled") rfl)
  have m_unroll : mg "unroll" = _ := He.glo_ok X G (c.fact 16 (f := .glo "unroll") rfl)
  have m_run_round : mg "run_round" = _ := He.glo_ok X G (c.fact 17 (f := .glo "run_round") rfl)
  have m_run_history : mg "run_history" = _ := He.glo_ok X G (c.fact 18 (f := .glo "run_history") rfl)
  have m_effect_difference : mg "effect_difference" = _ := He.glo_ok X G (c.fact 19 (f := .glo "effect_difference") rfl)
  have m_format_step : mg "format_step" = _ := He.glo_ok X G (c.fact 20 (f := .glo "format_step") rfl)
  have m_format_steps : mg "format_steps" = _ := He.glo_ok X G (c.fact 21 (f := .glo "format_steps") rfl)
  have m_format_history : mg "format_history" = _ := He.glo_ok X G (c.fact 22 (f := .glo "format_history") rfl)
  have m__law_start : mg "_law_start" = _ := He.glo_ok X G (c.fact 23 (f := .glo "_law_start") rfl)
  have m__law_take : mg "_law_take" = _ := He.glo_ok X G (c.fact 24 (f := .glo "_law_take") rfl)
  have m__law_of : mg "_law_of" = _ := He.glo_ok X G (c.fact 25 (f := .glo "_law_of") rfl)
  have m__law_same : mg "_law_same" = _ := He.glo_ok X G (c.fact 26 (f := .glo "_law_same") rfl)
  have m__law_step : mg "_law_step" = _ := He.glo_ok X G (c.fact 27 (f := .glo "_law_step") rfl)
  have m__law_rounds : mg "_law_rounds" = _ := He.glo_ok X G (c.fact 28 (f := .glo "_law_rounds") rfl)
  have m__law_odd_step : mg "_law_odd_step" = _ := He.glo_ok X G (c.fact 29 (f := .glo "_law_odd_step") rfl)
  have m__law_bent : mg "_law_bent" = _ := He.glo_ok X G (c.fact 30 (f := .glo "_law_bent") rfl)
  have m__law_fault : mg "_law_fault" = _ := He.glo_ok X G (c.fact 31 (f := .glo "_law_fault") rfl)
  have m_law : mg "law" = _ := He.glo_ok X G (c.fact 32 (f := .glo "law") rfl)
  have m__law_field : mg "_law_field" = _ := He.glo_ok X G (c.fact 33 (f := .glo "_law_field") rfl)
  have m__law_outcome : mg "_law_outcome" = _ := He.glo_ok X G (c.fact 34 (f := .glo "_law_outcome") rfl)
  have m__law_error : mg "_law_error" = _ := He.glo_ok X G (c.fact 35 (f := .glo "_law_error") rfl)
  have m_BadStep : mg "BadStep" = _ := He.glo_ok X G (c.fact 36 (f := .glo "BadStep") rfl)
  have m_NoNode : mg "NoNode" = _ := He.glo_ok X G (c.fact 37 (f := .glo "NoNode") rfl)
  have m_NotRoot : mg "NotRoot" = _ := He.glo_ok X G (c.fact 38 (f := .glo "NotRoot") rfl)
  have m_TooLong : mg "TooLong" = _ := He.glo_ok X G (c.fact 39 (f := .glo "TooLong") rfl)
  have n_all : mg "all" = none := He.free_ok X G (c.fact 40 (f := .free "all") rfl)
  have n_bool : mg "bool" = none := He.free_ok X G (c.fact 41 (f := .free "bool") rfl)
  have n_enumerate : mg "enumerate" = none := He.free_ok X G (c.fact 42 (f := .free "enumerate") rfl)
  have n_int : mg "int" = none := He.free_ok X G (c.fact 43 (f := .free "int") rfl)
  have n_isinstance : mg "isinstance" = none := He.free_ok X G (c.fact 44 (f := .free "isinstance") rfl)
  have n_len : mg "len" = none := He.free_ok X G (c.fact 45 (f := .free "len") rfl)
  have n_list : mg "list" = none := He.free_ok X G (c.fact 46 (f := .free "list") rfl)
  have n_range : mg "range" = none := He.free_ok X G (c.fact 47 (f := .free "range") rfl)
  have n_repr : mg "repr" = none := He.free_ok X G (c.fact 48 (f := .free "repr") rfl)
  have n_str : mg "str" = none := He.free_ok X G (c.fact 49 (f := .free "str") rfl)
  have n_tuple : mg "tuple" = none := He.free_ok X G (c.fact 50 (f := .free "tuple") rfl)
  have n_zip : mg "zip" = none := He.free_ok X G (c.fact 51 (f := .free "zip") rfl)
  have m_COUNT_LIMIT := He.int_ok X G (c.fact 52 (f := .int "COUNT_LIMIT" 1000000000000000000000000000000) rfl)
  have m_MAX_NESTING := He.int_ok X G (c.fact 53 (f := .int "MAX_NESTING" 4) rfl)
  have m_MAX_STEPS := He.int_ok X G (c.fact 54 (f := .int "MAX_STEPS" 100) rfl)
  have e := hfa.symm.trans m_law
  cases e
  have b := FunD.bindsA (ps := ["_law_script"]) D_law (fun _ _ _ _ _ _ us hl => match us, hl with | [_], _ => rfl)
  have B_need_node : L2.Binds K fd_need_node ["forest", "node"] [] := FunD.bindsN (ps := ["forest", "node"]) D_need_node (fun _ _ _ _ _ _ us hl => match us, hl with | [_, _], _ => rfl)
  have B_path_of : L2.Binds K fd_path_of ["forest", "node"] [] := FunD.bindsN (ps := ["forest", "node"]) D_path_of (fun _ _ _ _ _ _ us hl => match us, hl with | [_, _], _ => rfl)
  have B_compressed : L2.Binds K fd_compressed ["forest", "nodes", "root"] [] := FunD.bindsN (ps := ["forest", "nodes", "root"]) D_compressed (fun _ _ _ _ _ _ us hl => match us, hl with | [_, _, _], _ => rfl)
  have B_find : L2.Binds K fd_find ["forest", "node"] [] := FunD.bindsN (ps := ["forest", "node"]) D_find (fun _ _ _ _ _ _ us hl => match us, hl with | [_, _], _ => rfl)
  have B_need_root : L2.Binds K fd_need_root ["forest", "node"] [] := FunD.bindsN (ps := ["forest", "node"]) D_need_root (fun _ _ _ _ _ _ us hl => match us, hl with | [_, _], _ => rfl)
  have B_link : L2.Binds K fd_link ["forest", "child", "above"] [] := FunD.bindsN (ps := ["forest", "child", "above"]) D_link (fun _ _ _ _ _ _ us hl => match us, hl with | [_, _, _], _ => rfl)
  have B_check_tuple : L2.Binds K fd_check_tuple ["step", "nesting", "pos"] [] := FunD.bindsN (ps := ["step", "nesting", "pos"]) D_check_tuple (fun _ _ _ _ _ _ us hl => match us, hl with | [_, _, _], _ => rfl)
  have B_check_steps : L2.Binds K fd_check_steps ["steps", "nesting", "pos"] [] := FunD.bindsN (ps := ["steps", "nesting", "pos"]) D_check_steps (fun _ _ _ _ _ _ us hl => match us, hl with | [_, _, _], _ => rfl)
  have B_check_history : L2.Binds K fd_check_history ["history"] [] := FunD.bindsN (ps := ["history"]) D_check_history (fun _ _ _ _ _ _ us hl => match us, hl with | [_], _ => rfl)
  have B_count_steps : L2.Binds K fd_count_steps ["steps"] [] := FunD.bindsN (ps := ["steps"]) D_count_steps (fun _ _ _ _ _ _ us hl => match us, hl with | [_], _ => rfl)
  have B_count_finds : L2.Binds K fd_count_finds ["history"] [] := FunD.bindsN (ps := ["history"]) D_count_finds (fun _ _ _ _ _ _ us hl => match us, hl with | [_], _ => rfl)
  have B_note_found : L2.Binds K fd_note_found ["steps", "found"] [] := FunD.bindsN (ps := ["steps", "found"]) D_note_found (fun _ _ _ _ _ _ us hl => match us, hl with | [_, _], _ => rfl)
  have B_found_nodes : L2.Binds K fd_found_nodes ["history"] [] := FunD.bindsN (ps := ["history"]) D_found_nodes (fun _ _ _ _ _ _ us hl => match us, hl with | [_], _ => rfl)
  have B_with_tuples : L2.Binds K fd_with_tuples ["step"] [] := FunD.bindsN (ps := ["step"]) D_with_tuples (fun _ _ _ _ _ _ us hl => match us, hl with | [_], _ => rfl)
  have B_epochs : L2.Binds K fd_epochs ["history"] [] := FunD.bindsN (ps := ["history"]) D_epochs (fun _ _ _ _ _ _ us hl => match us, hl with | [_], _ => rfl)
  have B_unrolled : L2.Binds K fd_unrolled ["steps"] [] := FunD.bindsN (ps := ["steps"]) D_unrolled (fun _ _ _ _ _ _ us hl => match us, hl with | [_], _ => rfl)
  have B_run_round : L2.Binds K fd_run_round ["forest", "steps"] [] := FunD.bindsN (ps := ["forest", "steps"]) D_run_round (fun _ _ _ _ _ _ us hl => match us, hl with | [_, _], _ => rfl)
  have B_run_history : L2.Binds K fd_run_history ["forest", "history"] [] := FunD.bindsN (ps := ["forest", "history"]) D_run_history (fun _ _ _ _ _ _ us hl => match us, hl with | [_, _], _ => rfl)
  have B_effect_difference : L2.Binds K fd_effect_difference ["one", "other", "size"] [] := FunD.bindsN (ps := ["one", "other", "size"]) D_effect_difference (fun _ _ _ _ _ _ us hl => match us, hl with | [_, _, _], _ => rfl)
  have B_format_step : L2.Binds K fd_format_step ["step"] [] := FunD.bindsN (ps := ["step"]) D_format_step (fun _ _ _ _ _ _ us hl => match us, hl with | [_], _ => rfl)
  have B_format_steps : L2.Binds K fd_format_steps ["steps"] [] := FunD.bindsN (ps := ["steps"]) D_format_steps (fun _ _ _ _ _ _ us hl => match us, hl with | [_], _ => rfl)
  have B_format_history : L2.Binds K fd_format_history ["history"] [] := FunD.bindsN (ps := ["history"]) D_format_history (fun _ _ _ _ _ _ us hl => match us, hl with | [_], _ => rfl)
  have B__law_start : L2.Binds K fd__law_start ["_law_script"] [] := FunD.bindsN (ps := ["_law_script"]) D__law_start (fun _ _ _ _ _ _ us hl => match us, hl with | [_], _ => rfl)
  have B__law_take : L2.Binds K fd__law_take ["_law_draw", "_law_many"] [] := FunD.bindsN (ps := ["_law_draw", "_law_many"]) D__law_take (fun _ _ _ _ _ _ us hl => match us, hl with | [_, _], _ => rfl)
  have B__law_of : L2.Binds K fd__law_of ["_law_draw", "_law_some"] [] := FunD.bindsN (ps := ["_law_draw", "_law_some"]) D__law_of (fun _ _ _ _ _ _ us hl => match us, hl with | [_, _], _ => rfl)
  have B__law_same : L2.Binds K fd__law_same ["_law_found", "_law_due"] [] := FunD.bindsN (ps := ["_law_found", "_law_due"]) D__law_same (fun _ _ _ _ _ _ us hl => match us, hl with | [_, _], _ => rfl)
  have B__law_step : L2.Binds K fd__law_step ["_law_draw", "_law_size", "_law_deep"] [] := FunD.bindsN (ps := ["_law_draw", "_law_size", "_law_deep"]) D__law_step (fun _ _ _ _ _ _ us hl => match us, hl with | [_, _, _], _ => rfl)
  have B__law_rounds : L2.Binds K fd__law_rounds ["_law_draw", "_law_size", "_law_most", "_law_deep"] [] := FunD.bindsN (ps := ["_law_draw", "_law_size", "_law_most", "_law_deep"]) D__law_rounds (fun _ _ _ _ _ _ us hl => match us, hl with | [_, _, _, _], _ => rfl)
  have B__law_odd_step : L2.Binds K fd__law_odd_step ["_law_draw", "_law_step_here"] [] := FunD.bindsN (ps := ["_law_draw", "_law_step_here"]) D__law_odd_step (fun _ _ _ _ _ _ us hl => match us, hl with | [_, _], _ => rfl)
  have B__law_bent : L2.Binds K fd__law_bent ["_law_draw", "_law_steps"] [] := FunD.bindsN (ps := ["_law_draw", "_law_steps"]) D__law_bent (fun _ _ _ _ _ _ us hl => match us, hl with | [_, _], _ => rfl)
  have B__law_fault : L2.Binds K fd__law_fault ["_law_history_in"] [] := FunD.bindsN (ps := ["_law_history_in"]) D__law_fault (fun _ _ _ _ _ _ us hl => match us, hl with | [_], _ => rfl)
  have B_law : L2.Binds K fd_law ["_law_script"] [] := FunD.bindsN (ps := ["_law_script"]) D_law (fun _ _ _ _ _ _ us hl => match us, hl with | [_], _ => rfl)
  have B__law_field : L2.Binds K fd__law_field ["_law_e"] [] := FunD.bindsN (ps := ["_law_e"]) D__law_field (fun _ _ _ _ _ _ us hl => match us, hl with | [_], _ => rfl)
  have B__law_outcome : L2.Binds K fd__law_outcome ["_law_ask"] [] := FunD.bindsN (ps := ["_law_ask"]) D__law_outcome (fun _ _ _ _ _ _ us hl => match us, hl with | [_], _ => rfl)
  have B__law_error : L2.Binds K fd__law_error ["_law_ask"] [] := FunD.bindsN (ps := ["_law_ask"]) D__law_error (fun _ _ _ _ _ _ us hl => match us, hl with | [_], _ => rfl)
  have B_BadStep : L2.Binds K fd_BadStep ["self", "pos"] [] := FunD.bindsN (ps := ["self", "pos"]) D_BadStep (fun _ _ _ _ _ _ us hl => match us, hl with | [_, _], _ => rfl)
  have B_NoNode : L2.Binds K fd_NoNode ["self", "node"] [] := FunD.bindsN (ps := ["self", "node"]) D_NoNode (fun _ _ _ _ _ _ us hl => match us, hl with | [_, _], _ => rfl)
  have B_NotRoot : L2.Binds K fd_NotRoot ["self", "node"] [] := FunD.bindsN (ps := ["self", "node"]) D_NotRoot (fun _ _ _ _ _ _ us hl => match us, hl with | [_, _], _ => rfl)
  have B_TooLong : L2.Binds K fd_TooLong ["self", "limit"] [] := FunD.bindsN (ps := ["self", "limit"]) D_TooLong (fun _ _ _ _ _ _ us hl => match us, hl with | [_, _], _ => rfl)
  refine ⟨fd_law, fun s u => b s [u] rfl, fun base _ _ hT => ?_⟩
  have XC_BadStep : Xc P w K mg base "BadStep" "pos" := xc_of e_BadStep m_BadStep D_BadStep sc_BadStep rfl rfl rfl B_BadStep
  have XC_NoNode : Xc P w K mg base "NoNode" "node" := xc_of e_NoNode m_NoNode D_NoNode sc_NoNode rfl rfl rfl B_NoNode
  have XC_NotRoot : Xc P w K mg base "NotRoot" "node" := xc_of e_NotRoot m_NotRoot D_NotRoot sc_NotRoot rfl rfl rfl B_NotRoot
  have XC_TooLong : Xc P w K mg base "TooLong" "limit" := xc_of e_TooLong m_TooLong D_TooLong sc_TooLong rfl rfl rfl B_TooLong
  have ER := errs_ok X G eE
  obtain ⟨mE1, mE2, mE3⟩ := errsB_glo X G eE
  have FO : FldOk P w K mg base _ fd__law_field := fld_ok D__law_field sc__law_field rfl (fun hp hN hv h0 he hf hq => fld_body hp hN hv h0 he hf hq)
  have O__law_outcome : OutOk P w K mg base 3 false _ _ _ "_law_outcome" := out_ok FO m__law_field D__law_field.kp B__law_field D__law_outcome m__law_outcome sc__law_outcome rfl rfl rfl rfl rfl rfl rfl rfl rfl mE1 mE2 mE3 B__law_outcome (fun _ _ _ => rfl) (fun _ _ _ => rfl) rfl
  have O__law_error : OutOk P w K mg base 4 true _ _ _ "_law_error" := err_ok O__law_outcome D__law_error m__law_error sc__law_error rfl rfl B__law_error rfl
  have O_need_node : FnOk P w K mg base (L2N.CX P w) 3 _ fd_need_node ["forest", "node"] (lift K mg spFalse) := fnOk_of (k := 2) D_need_node sc_need_node (fun _ _ _ _ h => False.elim h) (fun cdv A outer s H E C => js_need_node n_len XC_NoNode (by decide) C) ok_F
  have F_need_node := fn_mkB D_need_node m_need_node O_need_node B_need_node
  have O_path_of : FnOk P w K mg base (L2N.CX P w) 4 _ fd_path_of ["forest", "node"] (lift K mg spFalse) := fnOk_of (k := 3) D_path_of sc_path_of (fun _ _ _ _ h => False.elim h) (fun cdv A outer s H E C => js_path_of F_need_node (by decide) C) ok_F
  have F_path_of := fn_mkB D_path_of m_path_of O_path_of B_path_of
  have O_compressed : FnOk P w K mg base (L2N.CX P w) 1 _ fd_compressed ["forest", "nodes", "root"] (lift K mg spFalse) := fnOk_of (k := 0) D_compressed sc_compressed (fun _ _ _ _ h => False.elim h) (fun cdv A outer s H E C => js_compressed n_enumerate n_tuple C) ok_F
  have F_compressed := fn_mkB D_compressed m_compressed O_compressed B_compressed
  have O_find : FnOk P w K mg base (L2N.CX P w) 1 _ fd_find ["forest", "node"] (lift K mg spFalse) := fnOk_of (k := 0) D_find sc_find (fun _ _ _ _ h => False.elim h) (fun cdv A outer s H E C => js_find C) ok_F
  have F_find := fn_mkB D_find m_find O_find B_find
  have O_need_root : FnOk P w K mg base (L2N.CX P w) 4 _ fd_need_root ["forest", "node"] (lift K mg spFalse) := fnOk_of (k := 3) D_need_root sc_need_root (fun _ _ _ _ h => False.elim h) (fun cdv A outer s H E C => js_need_root F_need_node (by decide) XC_NotRoot (by decide) C) ok_F
  have F_need_root := fn_mkB D_need_root m_need_root O_need_root B_need_root
  have O_link : FnOk P w K mg base (L2N.CX P w) 1 _ fd_link ["forest", "child", "above"] (lift K mg spFalse) := fnOk_of (k := 0) D_link sc_link (fun _ _ _ _ h => False.elim h) (fun cdv A outer s H E C => js_link C) ok_F
  have F_link := fn_mkB D_link m_link O_link B_link
  have O_check_tuple : FnOk P w K mg base (L2N.CX P w) 3 _ fd_check_tuple ["step", "nesting", "pos"] (lift K mg spCTk) := fnOk_of (k := 2) D_check_tuple sc_check_tuple (fun ds cs Q PX h => by obtain ⟨_, _, _, e, _⟩ := h; rw [e]; rfl) (fun cdv A outer s H E C => js_check_tuple n_int n_isinstance n_len m_COUNT_LIMIT m_MAX_NESTING XC_BadStep (by decide) C) ok_ctk
  have F_check_tuple := fn_mkB D_check_tuple m_check_tuple O_check_tuple B_check_tuple
  have S_check_steps : ∀ i : Nat, i ≤ 32 → Fn P w K mg base "check_steps" (i + 3) 3 (spCSk i) := by
    intro i
    induction i with
    | zero => exact fun _ => Fn.mono (fn_mkB (ps := ["steps", "nesting", "pos"]) D_check_steps m_check_steps (sp := spCSk 0) fnOk_false B_check_steps) (Nat.zero_le _)
    | succ i ih => exact fun hi => Fn.mono (fn_mkB D_check_steps m_check_steps (fnOk_of (k := i + 3) D_check_steps sc_check_steps (fun ds cs Q PX h => by obtain ⟨_, _, _, _, e, _⟩ := h; rw [e]; rfl) (fun cdv A outer s H E C => js_check_steps n_int n_isinstance m_MAX_STEPS (ih (by omega)) (Nat.le_refl _) F_check_tuple (by omega) XC_TooLong (by omega) C) (ok_csk i)) B_check_steps) (by omega)
  have F_check_steps := S_check_steps 32 (Nat.le_refl _)
  have O_check_history : FnOk P w K mg base (L2N.CX P w) 36 _ fd_check_history ["history"] (lift K mg spCHk) := fnOk_of (k := 35) D_check_history sc_check_history (fun ds cs Q PX h => by obtain ⟨_, _, e, _⟩ := h; rw [e]; rfl) (fun cdv A outer s H E C => js_check_history F_check_steps (by decide) C) ok_chk
  have F_check_history := fn_mkB D_check_history m_check_history O_check_history B_check_history
  have K_check_history_0_history := fnk_mk (n := 0) (ks := ["history"]) (ix := [0]) D_check_history m_check_history O_check_history (fun _ _ _ _ _ _ us ws h1 h2 => match us, h1, ws, h2 with | [], _, [_], _ => rfl)
  have O_count_steps : FnOk P w K mg base (L2N.CX P w) 1 _ fd_count_steps ["steps"] (lift K mg spFalse) := fnOk_of (k := 0) D_count_steps sc_count_steps (fun _ _ _ _ h => False.elim h) (fun cdv A outer s H E C => js_count_steps C) ok_F
  have F_count_steps := fn_mkB D_count_steps m_count_steps O_count_steps B_count_steps
  have O_count_finds : FnOk P w K mg base (L2N.CX P w) 37 _ fd_count_finds ["history"] (lift K mg spB0) := fnOk_of (k := 36) D_count_finds sc_count_finds (fun ds cs Q PX h => by obtain ⟨_, _, e, _⟩ := h; rw [e]; rfl) (fun cdv A outer s H E C => js_count_finds F_check_history (by decide) C) ok_cf
  have F_count_finds := fn_mkB D_count_finds m_count_finds O_count_finds B_count_finds
  have O_note_found : FnOk P w K mg base (L2N.CX P w) 1 _ fd_note_found ["steps", "found"] (lift K mg spFalse) := fnOk_of (k := 0) D_note_found sc_note_found (fun _ _ _ _ h => False.elim h) (fun cdv A outer s H E C => js_note_found C) ok_F
  have F_note_found := fn_mkB D_note_found m_note_found O_note_found B_note_found
  have O_found_nodes : FnOk P w K mg base (L2N.CX P w) 37 _ fd_found_nodes ["history"] (lift K mg spB0) := fnOk_of (k := 36) D_found_nodes sc_found_nodes (fun ds cs Q PX h => by obtain ⟨_, _, e, _⟩ := h; rw [e]; rfl) (fun cdv A outer s H E C => js_found_nodes F_check_history (by decide) C) ok_fn
  have F_found_nodes := fn_mkB D_found_nodes m_found_nodes O_found_nodes B_found_nodes
  have O_with_tuples : FnOk P w K mg base (L2N.CX P w) 1 _ fd_with_tuples ["step"] (lift K mg spFalse) := fnOk_of (k := 0) D_with_tuples sc_with_tuples (fun _ _ _ _ h => False.elim h) (fun cdv A outer s H E C => js_with_tuples C) ok_F
  have F_with_tuples := fn_mkB D_with_tuples m_with_tuples O_with_tuples B_with_tuples
  have O_epochs : FnOk P w K mg base (L2N.CX P w) 37 _ fd_epochs ["history"] (lift K mg spB0) := fnOk_of (k := 36) D_epochs sc_epochs (fun ds cs Q PX h => by obtain ⟨_, _, e, _⟩ := h; rw [e]; rfl) (fun cdv A outer s H E C => js_epochs F_check_history (by decide) C) ok_ep
  have F_epochs := fn_mkB D_epochs m_epochs O_epochs B_epochs
  have O_unrolled : FnOk P w K mg base (L2N.CX P w) 1 _ fd_unrolled ["steps"] (lift K mg spFalse) := fnOk_of (k := 0) D_unrolled sc_unrolled (fun _ _ _ _ h => False.elim h) (fun cdv A outer s H E C => js_unrolled C) ok_F
  have F_unrolled := fn_mkB D_unrolled m_unrolled O_unrolled B_unrolled
  have O_unroll : FnOk P w K mg base (L2N.CX P w) 38 _ fd_unroll ["history", "limit"] (lift K mg spB1) := fnOk_of (k := 37) D_unroll sc_unroll (fun ds cs Q PX h => by obtain ⟨_, _, _, e, _⟩ := h; rw [e]; rfl) (fun cdv A outer s H E C => js_unroll F_count_finds (by decide) XC_TooLong (by decide) C) ok_un
  have F_unroll__D : FnD P w K mg base "unroll" 38 1 spB1D := fnd_mk1 (y := "limit") (i := 1000) D_unroll m_unroll O_unroll rfl (fun _ _ _ _ _ _ us ks h1 h2 => match us, h1, ks, h2 with | [_], _, [_], _ => ⟨_, _, _, _, _, _, rfl, rfl, rfl⟩) (fun _ _ _ _ h => h)
  have O_run_round : FnOk P w K mg base (L2N.CX P w) 1 _ fd_run_round ["forest", "steps"] (lift K mg spFalse) := fnOk_of (k := 0) D_run_round sc_run_round (fun _ _ _ _ h => False.elim h) (fun cdv A outer s H E C => js_run_round C) ok_F
  have F_run_round := fn_mkB D_run_round m_run_round O_run_round B_run_round
  have O_run_history : FnOk P w K mg base (L2N.CX P w) 37 _ fd_run_history ["forest", "history"] (lift K mg spBr) := fnOk_of (k := 36) D_run_history sc_run_history (fun ds cs Q PX h => by obtain ⟨_, _, _, e, _⟩ := h; rw [e]; rfl) (fun cdv A outer s H E C => js_run_history F_check_history (by decide) C) ok_rn
  have F_run_history := fn_mkB D_run_history m_run_history O_run_history B_run_history
  have O_effect_difference : FnOk P w K mg base (L2N.CX P w) 38 _ fd_effect_difference ["one", "other", "size"] (lift K mg spB2) := fnOk_of (k := 37) D_effect_difference sc_effect_difference (fun ds cs Q PX h => by obtain ⟨_, _, _, _, e, _⟩ := h; rw [e]; rfl) (fun cdv A outer s H E C => js_effect_difference F_found_nodes (by decide) C) ok_edf
  have F_effect_difference := fn_mkB D_effect_difference m_effect_difference O_effect_difference B_effect_difference
  have O_format_step : FnOk P w K mg base (L2N.CX P w) 1 _ fd_format_step ["step"] (lift K mg spFalse) := fnOk_of (k := 0) D_format_step sc_format_step (fun _ _ _ _ h => False.elim h) (fun cdv A outer s H E C => js_format_step C) ok_F
  have F_format_step := fn_mkB D_format_step m_format_step O_format_step B_format_step
  have O_format_steps : FnOk P w K mg base (L2N.CX P w) 1 _ fd_format_steps ["steps"] (lift K mg spFalse) := fnOk_of (k := 0) D_format_steps sc_format_steps (fun _ _ _ _ h => False.elim h) (fun cdv A outer s H E C => js_format_steps C) ok_F
  have F_format_steps := fn_mkB D_format_steps m_format_steps O_format_steps B_format_steps
  have O_format_history : FnOk P w K mg base (L2N.CX P w) 37 _ fd_format_history ["history"] (lift K mg spB0) := fnOk_of (k := 36) D_format_history sc_format_history (fun ds cs Q PX h => by obtain ⟨_, _, e, _⟩ := h; rw [e]; rfl) (fun cdv A outer s H E C => js_format_history F_check_history (by decide) C) ok_fh
  have F_format_history := fn_mkB D_format_history m_format_history O_format_history B_format_history
  have O__law_start : FnOk P w K mg base (L2N.CX P w) 1 _ fd__law_start ["_law_script"] (lift K mg spStart) := seal_start (fnOk_of (k := 0) D__law_start sc__law_start (fun ds cs Q PX ⟨e, _⟩ => by rw [e]; rfl) (fun cdv A outer s H E C => js__law_start n_len n_list C) ok_start)
  have F__law_start := fn_mkB D__law_start m__law_start O__law_start B__law_start
  have O__law_take : FnOk P w K mg base (L2N.CX P w) 1 _ fd__law_take ["_law_draw", "_law_many"] (lift K mg spTake) := seal_take (fnOk_of (k := 0) D__law_take sc__law_take (fun ds cs Q PX ⟨_, _, _, _, _, _, e, _⟩ => by rw [e]; rfl) (fun cdv A outer s H E C => js__law_take n_len C) ok_take)
  have F__law_take := fn_mkB D__law_take m__law_take O__law_take B__law_take
  have O__law_of : FnOk P w K mg base (L2N.CX P w) 2 _ fd__law_of ["_law_draw", "_law_some"] (lift K mg spOf) := fnOk_of (k := 1) D__law_of sc__law_of (fun ds cs Q PX ⟨_, _, _, e, _⟩ => by rw [e]; rfl) (fun cdv A outer s H E C => js__law_of n_len F__law_take (by decide) C) ok_of
  have F__law_of := fn_mkB D__law_of m__law_of O__law_of B__law_of
  have S_same : ∀ i : Nat, i ≤ 64 → Fn P w K mg base "_law_same" i 2 (spSR i) := by
    intro i
    induction i with
    | zero => exact fun _ => fn_mkB (ps := ["_law_found", "_law_due"]) D__law_same m__law_same (sp := spSR 0) fnOk_zeroR B__law_same
    | succ i ih => exact fun hi => fn_mkB D__law_same m__law_same (fnOk_of (k := i) D__law_same sc__law_same (fun ds cs Q PX ⟨_, _, _, e, _⟩ => by rw [e]; rfl) (fun cdv A outer s H E C => js__law_same n_all n_bool n_int n_isinstance n_len n_list n_str n_tuple n_zip (ih (by omega)) (Nat.le_refl _) C) (ok_sameR i (by omega))) B__law_same
  have F__law_same := S_same 4 (by decide)
  have S__law_step : ∀ i : Nat, i ≤ 5 → Fn P w K mg base "_law_step" (i + 2) 3 (spLS i) := by
    intro i
    induction i with
    | zero => exact fun _ => Fn.mono (fn_mkB (ps := ["_law_draw", "_law_size", "_law_deep"]) D__law_step m__law_step (sp := spLS 0) fnOk_false B__law_step) (Nat.zero_le _)
    | succ i ih => exact fun hi => Fn.mono (fn_mkB D__law_step m__law_step (fnOk_of (k := i + 2) D__law_step sc__law_step (fun ds cs Q PX h => by obtain ⟨_, _, _, e, _⟩ := h; rw [e]; rfl) (fun cdv A outer s H E C => js__law_step n_range n_tuple F__law_of (by omega) (ih (by omega)) (Nat.le_refl _) F__law_take (by omega) C) (ok_lstep i)) B__law_step) (by omega)
  have F__law_step := S__law_step 5 (Nat.le_refl _)
  have O__law_rounds : FnOk P w K mg base (L2N.CX P w) 8 _ fd__law_rounds ["_law_draw", "_law_size", "_law_most", "_law_deep"] (lift K mg spLR) := fnOk_of (k := 7) D__law_rounds sc__law_rounds (fun ds cs Q PX ⟨_, _, _, _, e, _⟩ => by rw [e]; rfl) (fun cdv A outer s H E C => js__law_rounds n_range F__law_step (by decide) F__law_take (by decide) C) ok_lrounds
  have F__law_rounds := fn_mkB D__law_rounds m__law_rounds O__law_rounds B__law_rounds
  have O__law_odd_step : FnOk P w K mg base (L2N.CX P w) 3 _ fd__law_odd_step ["_law_draw", "_law_step_here"] (lift K mg spOddS) := fnOk_of (k := 2) D__law_odd_step sc__law_odd_step (fun ds cs Q PX h => by obtain ⟨_, _, e, _⟩ := h; rw [e]; rfl) (fun cdv A outer s H E C => js__law_odd_step n_int n_isinstance n_tuple F__law_of (by decide) C) ok_oddS
  have F__law_odd_step := fn_mkB D__law_odd_step m__law_odd_step O__law_odd_step B__law_odd_step
  have S__law_bent : ∀ i : Nat, i ≤ 24 → Fn P w K mg base "_law_bent" (i + 3) 2 (spBent i) := by
    intro i
    induction i with
    | zero => exact fun _ => Fn.mono (fn_mkB (ps := ["_law_draw", "_law_steps"]) D__law_bent m__law_bent (sp := spBent 0) fnOk_false B__law_bent) (Nat.zero_le _)
    | succ i ih => exact fun hi => Fn.mono (fn_mkB D__law_bent m__law_bent (fnOk_of (k := i + 3) D__law_bent sc__law_bent (fun ds cs Q PX h => by obtain ⟨_, _, _, e, _⟩ := h; rw [e]; rfl) (fun cdv A outer s H E C => js__law_bent n_int n_isinstance n_len n_list n_tuple (ih (by omega)) (Nat.le_refl _) F__law_odd_step (by omega) F__law_take (by omega) C) (ok_bent i)) B__law_bent) (by omega)
  have F__law_bent := S__law_bent 24 (Nat.le_refl _)
  have O__law_fault : FnOk P w K mg base (L2N.CX P w) 1 _ fd__law_fault ["_law_history_in"] (lift K mg spFt) := fnOk_ofL (k := 0) D__law_fault sc__law_fault (fun ds cs Q PX h => by obtain ⟨_, e, _⟩ := h; rw [e]; rfl) (fun cdv A outer s H E C => js__law_fault n_int n_isinstance n_len C) ok_ft
  have F__law_fault := fn_mkB D__law_fault m__law_fault O__law_fault B__law_fault
  exact fnOkG_ofC (core := .skip) (k := 42) D_law sc_law (fun ds cs Q PX ⟨e, _⟩ => by rw [e]; rfl) eU (cx.out (("law" : Str), (none : Option Str)) (List.mem_of_getElem? (i := 32) rfl)) (hT _ (List.mem_map.mpr ⟨(("law" : Str), (none : Option Str)), List.mem_of_getElem? (i := 32) rfl, rfl⟩)) (fun cdv A outer s H E GU LK C => let ⟨t0, t1, t2, t3, t4, t5, t6, h⟩ := js_law n_len n_range n_repr n_tuple m_MAX_NESTING m_MAX_STEPS F__law_bent (by decide) F__law_fault (by decide) F__law_rounds (by decide) F__law_same (by decide) F__law_start (by decide) F__law_take (by decide) F_check_history F_count_finds F_effect_difference F_epochs F_format_history F_found_nodes F_run_history F_unroll__D (j := 38) ER O__law_error (by decide) O__law_outcome (by decide) (by decide) (by decide) (by decide) (by decide) (by decide) (by decide) (by decide) (by decide) K_check_history_0_history LK GU C; ⟨_, h, ok_law _ t0 t1 t2 t3 t4 t5 t6⟩)
end K11
open PySem PySem.W PySem.Calls PyProof.Rows
theorem PySem.Challenge.cw_findforests_k11_histories_checked_holds : PySem.Challenge.rw_findforests_k11_histories_checked.Holds := by
  w_on; o_law
  refine HandSHeadRun.head_any (r := OpenLaw.row PySem.Challenge.rw_findforests_k11_histories_checked) (q := view (OpenLaw.row PySem.Challenge.rw_findforests_k11_histories_checked).prog [53]) (H := K11.hk) (ob := K11.ob) (M := 4000) (loose := ("__name__" :: "ForestError" :: "Missing" :: "NotRoot" :: "SameRoot" :: "BadStep" :: "TooLong" :: "NoNode" :: "EmptyHistory" :: "need_node" :: "path_of" :: "compressed" :: "find" :: "need_root" :: "link" :: "MAX_STEPS" :: "MAX_NESTING" :: "COUNT_LIMIT" :: "UNROLL_LIMIT" :: "check_tuple" :: "check_steps" :: "check_history" :: "count_steps" :: "count_finds" :: "note_found" :: "found_nodes" :: "with_tuples" :: "epochs" :: "unrolled" :: "unroll" :: "run_round" :: "run_history" :: "effect_difference" :: "format_step" :: "format_steps" :: "format_history" :: "_law_start" :: "_law_take" :: "_law_of" :: "_law_same" :: "_law_field" :: "_law_outcome" :: "_law_error" :: "_law_step" :: "_law_rounds" :: "_law_odd_step" :: "_law_bent" :: "_law_fault" :: [])) (d := HandSHeadRun.topDef (OpenLaw.row PySem.Challenge.rw_findforests_k11_histories_checked).prog 53) (kwd := []) K11.ob_eq
    (by kernel_rfl) (fun s => by kernel_rfl) K11.run (by kernel_rfl) (by kernel_rfl) (by kernel_rfl) (by rfl) (by first | assumption | decide +kernel) (by decide +kernel) ⟨rfl, rfl, rfl, rfl, rfl, by decide +kernel⟩ ?hw ?hc
  case hw => w_witness2
  case hc =>
    refine G.walkGG (l := PySem.Challenge.rw_findforests_k11_histories_checked) (k := 43) (x := "_law_script") (n := 5) (fa := K11.fa) (fn := K11.fn) (ts := []) (tf := K11.tf) (ex := K11.ex) rfl (by kernel_rfl) ⟨rfl, by decide, by decide⟩ (fun K h => (Bool.and_eq_true_iff.mp h).1) ?F
    intro w mg fa h K KX c Y hmg0
    have hmg : mg ("law" : PySem.Str) = some (.ref fa) := by
      have e : (HandSHeadRun.topDef (OpenLaw.row PySem.Challenge.rw_findforests_k11_histories_checked).prog 53).name = ("law" : PySem.Str) := by kernel_rfl
      rw [← e]
      exact hmg0
    exact K11.facts (P := (PySem.Challenge.rw_findforests_k11_histories_checked).prog) (w := w) KX Y hmg c
