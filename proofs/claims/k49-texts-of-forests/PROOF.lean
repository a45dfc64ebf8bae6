import PyProof.Rows.All
import PySem.Sem
import HandS.ForMost
import HandS.ForExc
import HandS.Evl
import HandS.Lambda
import HandS.HeadHook4
import HandS.Strs
import HandS.IsInst
import HandS.More
import HandS.Wide
import HandS.Style
import HandS.Flow
import HandS.TupMul
import HandS.Conv
import HandS.CallSlots
import HandS.Iter
import HandS.ExcOwn
import HandS.Zip
import HandS.Defaults
import HandS.WordsExc
import HandS.ExcCtx
import HandS.Dict
import HandS.DictComp
import HandS.Finally
import HandS.SetFor
import HandS.Text
import HandS.SortInts
import HandS.Codes
import PyProof.StrBlock2
import HandS.TupAny
import KE.GoesMore
import HandS.Deep
import HandS.ExcInit
import HandS.ExcField
import HandS.HotCalls
import HandS.TryMany
import KE.KExcInit
import PyProof.ExcBaseAll.LookupError
import PyProof.ExcBaseAll.IndexError
import PyProof.ExcBaseAll.ValueError
import KE.KStateDown
import HandS.Ends
import HandS.Words
import HandS.Head0
import HandS.Head1
import HandS.Head2
import HandS.HeadEnd
import HandS.EndBits
import HandS.HeadHook1
import HandS.HeadHook2
import HandS.HeadWalk
import KE.KTryMore
import PyProof.Rows.TupIter
import KE.KUnpackStar
import HandS.Sort
import HandS.SortKw
import KE.DataMinMax
import HandS.HeadHook3
import HandS.DictTup
import HandS.WordsDict
import HandS.ListEq
import HandS.ListItems
import HandS.SortOrd
import HandS.SortRule
import HandS.FStr
import HandS.DeepEq
import HandS.EndTab
import PyProof.ReprRoads
import PyProof.ReprLen
import PyProof.InstNe
import KE.IntTextText
import PyProof.ReprText
import PySem.Challenge.RW_findforests_k49_texts_of_forests
set_option Elab.async false
set_option linter.all false
set_option maxRecDepth 100000
set_option maxHeartbeats 4000000
namespace G
open PySem PySem.Spec L2
def tabsOf (K : PySem.W.Frag) : List (Addr × Str) := K.filterMap fun q => match q.2.data with
  | .func fd => match fd.code with
    | .ref c => if (K.lookup (He.tabOf K c)).isNone then some (He.tabOf K c, fd.qualname ++ ".<locals>." ++ "<lambda>") else none
    | _ => none
  | _ => none
def tabsB (tf : List He.Defn) (K : PySem.W.Frag) : Bool := (tabsOf K).all fun p => tf.any fun d => (He.cT K d).2 == p.1
def tabsU (K : PySem.W.Frag) : Bool := (tabsOf K).all fun p => (tabsOf K).all fun r => !(p.1 == r.1) || decide (p.2 = r.2)
def clsBody (s : Stmt) : List Stmt := match s with
  | .ClassDef _ _ _ b _ _ _ _ _ _ _ => b
  | _ => []
def xcBases : List (String × String × List Value) := [("ValueError", "ValueError.__new__", [.type "ValueError", .type "Exception", .type "BaseException", .type "object"]), ("LookupError", "LookupError.__new__", [.type "LookupError", .type "Exception", .type "BaseException", .type "object"]),
  ("IndexError", "IndexError.__new__", [.type "IndexError", .type "LookupError", .type "Exception", .type "BaseException", .type "object"])]
def xcB (K : PySem.W.Frag) (C : Addr) : Bool := xcBases.any (fun q => PySem.W.excInitIn K C q.2.2 q.2.1 && PySem.W.excOver K C q.2.2) && (PySem.W.hasDictIn K C && (decide (PySem.W.findIn K (.ref C) "__setattr__" = some (some (.builtin "object.__setattr__"))) &&
  (decide (PySem.W.subIn K (.ref C) (.type "BaseException") = some true) && (decide (PySem.W.typeIn K (.ref C) = some (.type "type")) && PySem.W.keepIn K (.ref C)))))
def clsRB (K : PySem.W.Frag) (x f : Str) : Bool := xfB K (He.ga K x) && (decide (PySem.W.findIn K (.ref (He.ga K x)) "tag" = some none) && decide (PySem.W.findIn K (.ref (He.ga K x)) f = some none))
def clsCB (K : PySem.W.Frag) (x f : Str) : Bool := xcB K (He.ga K x) && (decide (PySem.W.findIn K (.ref (He.ga K x)) "tag" = some none) && (decide (PySem.W.findIn K (.ref (He.ga K x)) f = some none) &&
  (decide (PySem.W.findIn K (.ref (He.ga K x)) "__init__" = some (some (.ref (He.ma K (He.ga K x) "__init__")))) && decide (PySem.W.typeIn K (.ref (He.ma K (He.ga K x) "__init__")) = some (.type "function")))))
def errTags : List (Str × Str) := [("BadParent", "node"), ("Cycle", "node"), ("NotRoot", "node"), ("SameRoot", "node"), ("RootsDiffer", "node"), ("NoWay", "node"), ("BadWeight", "node"), ("NoNode", "node"), ("TooManyNodes", "limit"), ("TooLong", "limit"), ("TooManyForests", "limit"), ("TooManyWatches", "limit"),
  ("BadStep", "pos"), ("BadCost", "pos"), ("Contradiction", "pos"), ("ParseError", "pos"), ("SizesDiffer", "size"), ("BadSize", "size"), ("BadName", "name"), ("NameTaken", "name"), ("NoForest", "name"), ("BadCommand", "word"), ("BadCount", "count"), ("NoWatch", "number")]
def gloB (K : PySem.W.Frag) (x : Str) : Bool := decide (PySem.W.nsIn K mainGlobals x = some (some (.ref (He.ga K x))))
def exCs (K : PySem.W.Frag) : List Value := [.ref (He.ga K "ForestError"), .ref (He.ga K "Missing")]
def errsB (K : PySem.W.Frag) : Bool := (errTags.all fun q => decide (PySem.W.nsIn K mainGlobals q.1 = some none) || (gloB K q.1 && (clsRB K q.1 q.2 && decide (PySem.W.exmAny K (.ref (He.ga K q.1)) (exCs K) = some true)))) &&
  (gloB K "ForestError" && (gloB K "Missing" && (gloB K "EmptyHistory" && (clsRB K "EmptyHistory" "tag" && (decide (PySem.W.exmAny K (.ref (He.ga K "EmptyHistory")) (exCs K) = some false) && decide (PySem.W.exmOne K (.ref (He.ga K "EmptyHistory")) (.ref (He.ga K "EmptyHistory")) = some true))))))
theorem run_join {α β γ δ : Type} {x : Option α} {f : α → β} {g : α → γ} {o : α → δ × Bool} {b : β} {c : γ} {d : δ} (h1 : x.map (fun s => (f s, g s)) = some (b, c)) (h2 : x.map (fun s => (o s).1) = some d) (h3 : x.map (fun s => (o s).2) = some true) : x.map (fun s => (f s, g s, o s)) = some (b, c, (d, true)) := by
  cases x with
  | none => cases h1
  | some s =>
    have e1 := Option.some.inj h1
    have e2 := Option.some.inj h2
    have e3 := Option.some.inj h3
    have a1 : f s = b := congrArg (·.1) e1
    have a2 : g s = c := congrArg (·.2) e1
    have a3 : o s = (d, true) := Prod.ext e2 e3
    show some (f s, g s, o s) = _
    rw [a1, a2, a3]
theorem run_and {α : Type} {x : Option α} {f g : α → Bool} (h1 : x.map f = some true) (h2 : x.map g = some true) : x.map (fun s => f s && g s) = some true := by
  cases x with
  | none => cases h1
  | some s =>
    have e1 : f s = true := Option.some.inj h1
    have e2 : g s = true := Option.some.inj h2
    show some (f s && g s) = _
    rw [e1, e2]
    rfl
theorem run_bools {α : Type} {x : Option α} {a b c d : α → Bool} (h1 : x.map (fun s => (a s && c s) && d s) = some true) (h2 : x.map b = some true) : x.map (fun s => (a s && (b s && c s)) && d s) = some true := by
  cases x with
  | none => cases h1
  | some s =>
    have e1 : ((a s && c s) && d s) = true := Option.some.inj h1
    have e2 : b s = true := Option.some.inj h2
    show some ((a s && (b s && c s)) && d s) = _
    rw [e2, Bool.true_and, e1]
end G
namespace G
open PySem HandSHeadRun
def dedF : List Nat → Nat → List Nat → List Nat
  | [], _, bs => bs.reverse
  | a :: l, m, bs => frNat a fun a => match Nat.testBit m a with
    | true => dedF l m bs
    | false => frNat (m ||| (1 <<< a)) fun m => dedF l m (a :: bs)
theorem bit_set {m a b : Nat} : Nat.testBit (m ||| (1 <<< a)) b = (Nat.testBit m b || decide (a = b)) := by
  rw [Nat.testBit_or, Nat.one_shiftLeft, Nat.testBit_two_pow]
theorem dedF_loop : ∀ (l : List Nat) (m : Nat) (bs : List Nat), (∀ b, Nat.testBit m b = bs.any (fun x => b == x)) → dedF l m bs = List.eraseDupsBy.loop (fun x y => x == y) l bs
  | [], m, bs, _ => rfl
  | a :: l, m, bs, h => by
    unfold dedF List.eraseDupsBy.loop
    rw [frNat_eq, h a]
    cases e : bs.any (fun x => a == x) with
    | true =>
      simp only
      exact dedF_loop l m bs h
    | false =>
      simp only
      rw [frNat_eq]
      refine dedF_loop l _ (a :: bs) fun b => ?_
      rw [bit_set, h b, List.any_cons, Bool.or_comm]
      congr 1
      by_cases z : a = b
      · subst z
        simp
      · rw [decide_eq_false z]
        exact (beq_false_of_ne (Ne.symm z)).symm
theorem dedF_eq (l : List Nat) : dedF l 0 [] = l.eraseDups := dedF_loop l 0 [] fun b => by simp
def asF (g : Addr → Option Obj) : Nat → List Addr
  | 0 => [mainGlobals]
  | n + 1 => dedF (asF g n ++ (asF g n).flatMap fun a => match g a with
    | some o => He.refsD o
    | none => []) 0 []
theorem asF_eq {g : Addr → Option Obj} : ∀ n, asF g n = He.asD g n
  | 0 => rfl
  | n + 1 => by
    unfold asF
    rw [dedF_eq, asF_eq n]
    rfl
/-- a list of addresses and objects, forced -/
def frK {α : Type} : PySem.W.Frag → (PySem.W.Frag → α) → α
  | [], k => k []
  | (a, o) :: r, k => frNat a fun a => match o with
    | ⟨c, d, t, z⟩ => frK r fun r => k ((a, ⟨c, d, t, z⟩) :: r)
theorem frK_eq {α : Type} : ∀ (K : PySem.W.Frag) (k : PySem.W.Frag → α), frK K k = k K
  | [], _ => rfl
  | (a, ⟨c, d, t, z⟩) :: r, k => by
    unfold frK
    rw [frNat_eq]
    exact frK_eq r _
/-- what is looked at of K, K forced -/
def lookK {α : Type} (n : Nat) (f : PySem.W.Frag → α) (s : PySem.W.SharedT) : α := frK (He.frT (getT s) (asF (getT s) n)) f
theorem lookK_eq {α : Type} {n : Nat} {f : PySem.W.Frag → α} {s : PySem.W.SharedT} : lookK n f s = f (He.frT (getT s) (He.asD (getT s) n)) := by
  unfold lookK
  rw [frK_eq, asF_eq]
/-- all different -/
def diffF : List Nat → Nat → Bool
  | [], _ => true
  | a :: l, m => frNat a fun a => match Nat.testBit m a with
    | true => false
    | false => frNat (m ||| (1 <<< a)) fun m => diffF l m
theorem diffF_ok : ∀ {l : List Nat} {m : Nat}, diffF l m = true → (∀ a ∈ l, Nat.testBit m a = false) ∧ l.Nodup
  | [], _, _ => And.intro (fun a ha => absurd ha List.not_mem_nil) List.nodup_nil
  | a :: l, m, h => by
    unfold diffF at h
    rw [frNat_eq] at h
    cases e : Nat.testBit m a with
    | true => rw [e] at h; cases h
    | false =>
      rw [e] at h
      simp only at h
      rw [frNat_eq] at h
      obtain ⟨h1, h2⟩ := diffF_ok h
      refine ⟨fun b hb => ?_, List.nodup_cons.mpr ⟨fun z => ?_, h2⟩⟩
      · rcases List.mem_cons.mp hb with rfl | hb
        · exact e
        · have := h1 b hb
          rw [bit_set, Bool.or_eq_false_iff] at this
          exact this.1
      · have := h1 a z
        rw [bit_set] at this
        simp at this
def tabsUF (K : PySem.W.Frag) : Bool := diffF ((tabsOf K).map (·.1)) 0
theorem same_of_nd {l : List (Addr × Str)} (h : (l.map (·.1)).Nodup) : ∀ p ∈ l, ∀ r ∈ l, p.1 = r.1 → p = r := by
  induction l with
  | nil => exact fun p hp => by cases hp
  | cons x l ih =>
    rw [List.map_cons, List.nodup_cons] at h
    intro p hp r hr e
    rcases List.mem_cons.mp hp with rfl | hp'
    · rcases List.mem_cons.mp hr with rfl | hr'
      · rfl
      · exact (h.1 (List.mem_map.mpr ⟨r, hr', e.symm⟩)).elim
    · rcases List.mem_cons.mp hr with rfl | hr'
      · exact (h.1 (List.mem_map.mpr ⟨p, hp', e⟩)).elim
      · exact ih h.2 p hp' r hr' e
theorem tabsUF_ok {K : PySem.W.Frag} (h : tabsUF K = true) : tabsU K = true := by
  have nd := (diffF_ok h).2
  unfold tabsU
  rw [List.all_eq_true]
  intro p hp
  rw [List.all_eq_true]
  intro r hr
  by_cases e : p.1 = r.1
  · have := same_of_nd nd p hp r hr e
    rw [this]
    simp
  · rw [beq_false_of_ne e]
    rfl
def maskF : List Nat → Nat → Nat
  | [], m => m
  | a :: l, m => frNat a fun a => frNat (m ||| (1 <<< a)) fun m => maskF l m
theorem maskF_bit : ∀ (l : List Nat) (m b : Nat), Nat.testBit (maskF l m) b = (Nat.testBit m b || l.any (fun a => a == b))
  | [], m, b => by simp [maskF]
  | a :: l, m, b => by
    unfold maskF
    rw [frNat_eq, frNat_eq, maskF_bit l, bit_set, List.any_cons, Bool.or_assoc]
    by_cases z : a = b
    · simp [z]
    · rw [decide_eq_false z, beq_false_of_ne z]
def tabsBF (tf : List He.Defn) (K : PySem.W.Frag) : Bool := frNat (maskF (tf.map fun d => (He.cT K d).2) 0) fun m => (tabsOf K).all fun p => Nat.testBit m p.1
theorem tabsBF_eq {tf : List He.Defn} {K : PySem.W.Frag} : tabsBF tf K = tabsB tf K := by
  unfold tabsBF tabsB
  rw [frNat_eq]
  congr 1
  funext p
  rw [maskF_bit, Nat.zero_testBit, Bool.false_or, List.any_map]
  rfl
theorem run_imp {α : Type} {x : Option α} {f g : α → Bool} (h : x.map f = some true) (i : ∀ s, f s = true → g s = true) : x.map g = some true := by
  cases x with
  | none => cases h
  | some s => exact congrArg some (i s (Option.some.inj h))
theorem look_of {α : Type} {x : Option PySem.W.SharedT} {n : Nat} {f : PySem.W.SharedT → PySem.W.Frag → α} {b : α} (h : x.map (fun s => lookK n (f s) s) = some b) : x.map (fun s => f s (He.frT (getT s) (He.asD (getT s) n))) = some b := by
  have e : (fun s => lookK n (f s) s) = fun s => f s (He.frT (getT s) (He.asD (getT s) n)) := funext fun s => lookK_eq
  rw [e] at h
  exact h
end G

namespace K49
open PySem PySem.Spec PyProof.Rows L2 G
def top (i : Nat) : Stmt := PySem.Challenge.pw_findforests_k49_texts_of_forests.main.body.getD i (.Pass ⟨0, 0, 0, 0⟩)
abbrev s_leads_to_root : Stmt := top 7
abbrev s_is_forest : Stmt := top 8
abbrev s_parse_number : Stmt := top 12
abbrev s_format_forest : Stmt := top 13
abbrev s_parse_parent : Stmt := top 14
abbrev s_parse_forest : Stmt := top 15
abbrev s__law_start : Stmt := top 17
abbrev s__law_take : Stmt := top 18
abbrev s__law_of : Stmt := top 19
abbrev s__law_shuffled : Stmt := top 20
abbrev s__law_same : Stmt := top 21
abbrev s__law_size : Stmt := top 25
abbrev s__law_path : Stmt := top 26
abbrev s__law_renamed : Stmt := top 27
abbrev s__law_forest : Stmt := top 28
abbrev s__law_some_forest : Stmt := top 29
abbrev s__law_shown : Stmt := top 30
abbrev s__law_read : Stmt := top 31
abbrev s_law : Stmt := top 32
abbrev s__law_field : Stmt := top 22
theorem sc__law_field : FnScope ["_law_e"] ["_law_e"] (defScope s__law_field) := ⟨rfl, rfl, rfl, by decide +kernel, rfl, by decide +kernel, by decide +kernel⟩
abbrev s__law_outcome : Stmt := top 23
theorem sc__law_outcome : FnScope ["_law_ask", "_law_answer", "_law_tag", "_law_field_here", "_law_e"] ["_law_ask"] (defScope s__law_outcome) := ⟨rfl, rfl, rfl, by decide +kernel, rfl, by decide +kernel, by decide +kernel⟩
abbrev s__law_error : Stmt := top 24
theorem sc__law_error : FnScope ["_law_ask"] ["_law_ask"] (defScope s__law_error) := ⟨rfl, rfl, rfl, by decide +kernel, rfl, by decide +kernel, by decide +kernel⟩
abbrev s_ParseError : Stmt := (clsBody (top 3)).getD 0 (.Pass ⟨0, 0, 0, 0⟩)
theorem sc_ParseError : FnScope ["self", "pos"] ["self", "pos"] (defScope s_ParseError) := ⟨rfl, rfl, rfl, by decide +kernel, rfl, by decide +kernel, by decide +kernel⟩
def d_leads_to_root : He.DefD := ⟨("leads_to_root", none), "leads_to_root", "leads_to_root", defArgs s_leads_to_root, defBody s_leads_to_root, defScope s_leads_to_root, [], []⟩
def d_is_forest : He.DefD := ⟨("is_forest", none), "is_forest", "is_forest", defArgs s_is_forest, defBody s_is_forest, defScope s_is_forest, [], []⟩
def d_parse_number : He.DefD := ⟨("parse_number", none), "parse_number", "parse_number", defArgs s_parse_number, defBody s_parse_number, defScope s_parse_number, [], []⟩
def d_format_forest : He.DefD := ⟨("format_forest", none), "format_forest", "format_forest", defArgs s_format_forest, defBody s_format_forest, defScope s_format_forest, [], []⟩
def d_parse_parent : He.DefD := ⟨("parse_parent", none), "parse_parent", "parse_parent", defArgs s_parse_parent, defBody s_parse_parent, defScope s_parse_parent, [], []⟩
def d_parse_forest : He.DefD := ⟨("parse_forest", none), "parse_forest", "parse_forest", defArgs s_parse_forest, defBody s_parse_forest, defScope s_parse_forest, [], []⟩
def d__law_start : He.DefD := ⟨("_law_start", none), "_law_start", "_law_start", defArgs s__law_start, defBody s__law_start, defScope s__law_start, [], []⟩
def d__law_take : He.DefD := ⟨("_law_take", none), "_law_take", "_law_take", defArgs s__law_take, defBody s__law_take, defScope s__law_take, [], []⟩
def d__law_of : He.DefD := ⟨("_law_of", none), "_law_of", "_law_of", defArgs s__law_of, defBody s__law_of, defScope s__law_of, [], []⟩
def d__law_shuffled : He.DefD := ⟨("_law_shuffled", none), "_law_shuffled", "_law_shuffled", defArgs s__law_shuffled, defBody s__law_shuffled, defScope s__law_shuffled, [], []⟩
def d__law_same : He.DefD := ⟨("_law_same", none), "_law_same", "_law_same", defArgs s__law_same, defBody s__law_same, defScope s__law_same, [], []⟩
def d__law_size : He.DefD := ⟨("_law_size", none), "_law_size", "_law_size", defArgs s__law_size, defBody s__law_size, defScope s__law_size, [], []⟩
def d__law_path : He.DefD := ⟨("_law_path", none), "_law_path", "_law_path", defArgs s__law_path, defBody s__law_path, defScope s__law_path, [], []⟩
def d__law_renamed : He.DefD := ⟨("_law_renamed", none), "_law_renamed", "_law_renamed", defArgs s__law_renamed, defBody s__law_renamed, defScope s__law_renamed, [], []⟩
def d__law_forest : He.DefD := ⟨("_law_forest", none), "_law_forest", "_law_forest", defArgs s__law_forest, defBody s__law_forest, defScope s__law_forest, [], []⟩
def d__law_some_forest : He.DefD := ⟨("_law_some_forest", none), "_law_some_forest", "_law_some_forest", defArgs s__law_some_forest, defBody s__law_some_forest, defScope s__law_some_forest, [], []⟩
def d__law_shown : He.DefD := ⟨("_law_shown", none), "_law_shown", "_law_shown", defArgs s__law_shown, defBody s__law_shown, defScope s__law_shown, [], []⟩
def d__law_read : He.DefD := ⟨("_law_read", none), "_law_read", "_law_read", defArgs s__law_read, defBody s__law_read, defScope s__law_read, [], []⟩
def d_law : He.DefD := ⟨("law", none), "law", "law", defArgs s_law, defBody s_law, defScope s_law, [], []⟩
def d__law_field : He.DefD := ⟨("_law_field", none), "_law_field", "_law_field", defArgs s__law_field, defBody s__law_field, defScope s__law_field, [], []⟩
def d__law_outcome : He.DefD := ⟨("_law_outcome", none), "_law_outcome", "_law_outcome", defArgs s__law_outcome, defBody s__law_outcome, defScope s__law_outcome, [], []⟩
def d__law_error : He.DefD := ⟨("_law_error", none), "_law_error", "_law_error", defArgs s__law_error, defBody s__law_error, defScope s__law_error, [], []⟩
def d_ParseError : He.DefD := ⟨("ParseError", some "__init__"), "__init__", "ParseError.__init__", defArgs s_ParseError, defBody s_ParseError, defScope s_ParseError, [], []⟩
def fn : List He.DefD := [d_leads_to_root, d_is_forest, d_parse_number, d_format_forest, d_parse_parent, d_parse_forest, d__law_start, d__law_take, d__law_of, d__law_shuffled, d__law_same, d__law_size, d__law_path, d__law_renamed, d__law_forest, d__law_some_forest, d__law_shown, d__law_read, d_law, d__law_field, d__law_outcome, d__law_error, d_ParseError]
def tf : List He.Defn := [(("leads_to_root" : Str), (none : Option Str)), (("is_forest" : Str), (none : Option Str)), (("parse_number" : Str), (none : Option Str)), (("format_forest" : Str), (none : Option Str)), (("parse_parent" : Str), (none : Option Str)), (("parse_forest" : Str), (none : Option Str)), (("_law_start" : Str), (none : Option Str)), (("_law_take" : Str), (none : Option Str)), (("_law_of" : Str), (none : Option Str)), (("_law_shuffled" : Str), (none : Option Str)), (("_law_same" : Str), (none : Option Str)), (("_law_size" : Str), (none : Option Str)), (("_law_path" : Str), (none : Option Str)), (("_law_renamed" : Str), (none : Option Str)), (("_law_forest" : Str), (none : Option Str)), (("_law_some_forest" : Str), (none : Option Str)), (("_law_shown" : Str), (none : Option Str)), (("_law_read" : Str), (none : Option Str)), (("law" : Str), (none : Option Str)), (("_law_field" : Str), (none : Option Str)), (("_law_outcome" : Str), (none : Option Str)), (("_law_error" : Str), (none : Option Str)), (("ParseError" : Str), some ("__init__" : Str)), (("EmptyHistory" : Str), some ("__init__" : Str))]
def ts : List He.Tab := []
def fa : List He.Fa := [.glo "leads_to_root", .glo "is_forest", .glo "parse_number", .glo "format_forest", .glo "parse_parent", .glo "parse_forest", .glo "_law_start", .glo "_law_take", .glo "_law_of", .glo "_law_shuffled", .glo "_law_same", .glo "_law_size", .glo "_law_path", .glo "_law_renamed", .glo "_law_forest", .glo "_law_some_forest", .glo "_law_shown", .glo "_law_read", .glo "law", .glo "_law_field", .glo "_law_outcome", .glo "_law_error", .glo "ParseError", .free "all", .free "bool", .free "enumerate", .free "int", .free "isinstance", .free "len", .free "list", .free "max", .free "min", .free "range", .free "str", .free "tuple", .free "zip", .int "MAX_DIGITS" 31, .int "MAX_NODES" 40, .str "DIGITS" "0123456789"]
def ex (K : PySem.W.Frag) : Bool := tabsB tf K && (tabsU K && (errsB K && (clsCB K "ParseError" "pos")))
abbrev R : PySem.W.OpenRow := PySem.W.OpenLaw.row PySem.Challenge.rw_findforests_k49_texts_of_forests
abbrev hk : PySem.W.Hook := He.hookX 4 fa fn ts tf ex
def ob (s : PySem.W.SharedT) : He.AlX := He.obsX 4 fa fn ts tf ex (HandSHeadRun.getT s)
theorem ob_eq (s : PySem.W.SharedT) : ob s = hk.obs s.abs := He.obsX_eq (HandSHeadRun.getT_eq s)
abbrev KK (s : PySem.W.SharedT) : PySem.W.Frag := He.frT (HandSHeadRun.getT s) (He.asD (HandSHeadRun.getT s) 4)
def ex3 (K : PySem.W.Frag) : Bool := (errsB K && (clsCB K "ParseError" "pos"))
open HandSHeadRun PySem.W in
theorem run_a (w : World) (os : OsState) : (HandSHeadRun.endF (HandSHeadRun.stepQ (HandSHeadRun.denQ HandSHeadRun.tabQ) R.prog w) 6000 R.prog w os).map (fun s => (looksF R.prog (boot_heap w.params) s.abs, seenQ (PySem.W.view R.prog [32]) ("__name__" :: "ForestError" :: "Missing" :: "ParseError" :: "EmptyHistory" :: "MAX_NODES" :: "leads_to_root" :: "is_forest" :: "DIGITS" :: "MAX_DIGITS" :: "parse_number" :: "format_forest" :: "parse_parent" :: "parse_forest" :: "_law_start" :: "_law_take" :: "_law_of" :: "_law_shuffled" :: "_law_same" :: "_law_field" :: "_law_outcome" :: "_law_error" :: "_law_size" :: "_law_path" :: "_law_renamed" :: "_law_forest" :: "_law_some_forest" :: "_law_shown" :: "_law_read" :: []) (importedModules R.prog.main.body) (fun s => xlAt (PySem.W.view R.prog [32]) [] s && recOk R.toRowW.records s) s.abs)) = some (true, openGood (PySem.W.view R.prog [32]) ("__name__" :: "ForestError" :: "Missing" :: "ParseError" :: "EmptyHistory" :: "MAX_NODES" :: "leads_to_root" :: "is_forest" :: "DIGITS" :: "MAX_DIGITS" :: "parse_number" :: "format_forest" :: "parse_parent" :: "parse_forest" :: "_law_start" :: "_law_take" :: "_law_of" :: "_law_shuffled" :: "_law_same" :: "_law_field" :: "_law_outcome" :: "_law_error" :: "_law_size" :: "_law_path" :: "_law_renamed" :: "_law_forest" :: "_law_some_forest" :: "_law_shown" :: "_law_read" :: [])) := by
  kernel_rfl
theorem run_bL (w : World) (os : OsState) : (HandSHeadRun.endF (HandSHeadRun.stepQ (HandSHeadRun.denQ HandSHeadRun.tabQ) R.prog w) 6000 R.prog w os).map (fun s => lookK 4 (He.obsT fa fn ts) s) = some (hk.val w).1 := by
  kernel_rfl
theorem run_c1L (w : World) (os : OsState) : (HandSHeadRun.endF (HandSHeadRun.stepQ (HandSHeadRun.denQ HandSHeadRun.tabQ) R.prog w) 6000 R.prog w os).map (fun s => lookK 4 (fun K => tabsBF tf K && ex3 K) s) = some true := by
  kernel_rfl
theorem run_c2L (w : World) (os : OsState) : (HandSHeadRun.endF (HandSHeadRun.stepQ (HandSHeadRun.denQ HandSHeadRun.tabQ) R.prog w) 6000 R.prog w os).map (fun s => lookK 4 tabsUF s) = some true := by
  kernel_rfl
theorem run_c3L (w : World) (os : OsState) : (HandSHeadRun.endF (HandSHeadRun.stepQ (HandSHeadRun.denQ HandSHeadRun.tabQ) R.prog w) 6000 R.prog w os).map (fun s => lookK 4 (He.tabsB (HandSHeadRun.getT s) tf) s) = some true := by
  kernel_rfl
theorem run_b (w : World) (os : OsState) : (HandSHeadRun.endF (HandSHeadRun.stepQ (HandSHeadRun.denQ HandSHeadRun.tabQ) R.prog w) 6000 R.prog w os).map (fun s => (ob s).1) = some (hk.val w).1 :=
  look_of (f := fun _ => He.obsT fa fn ts) (run_bL w os)
theorem run_c1 (w : World) (os : OsState) : (HandSHeadRun.endF (HandSHeadRun.stepQ (HandSHeadRun.denQ HandSHeadRun.tabQ) R.prog w) 6000 R.prog w os).map (fun s => (tabsB tf (KK s) && ex3 (KK s)) && He.tabsB (HandSHeadRun.getT s) tf (KK s)) = some true :=
  run_and (run_imp (look_of (f := fun _ => fun K => tabsBF tf K && ex3 K) (run_c1L w os)) fun s h => by
    have h : (tabsBF tf (KK s) && ex3 (KK s)) = true := h
    rw [tabsBF_eq] at h
    exact h) (look_of (f := fun s => He.tabsB (HandSHeadRun.getT s) tf) (run_c3L w os))
theorem run_c2 (w : World) (os : OsState) : (HandSHeadRun.endF (HandSHeadRun.stepQ (HandSHeadRun.denQ HandSHeadRun.tabQ) R.prog w) 6000 R.prog w os).map (fun s => tabsU (KK s)) = some true :=
  run_imp (look_of (f := fun _ => tabsUF) (run_c2L w os)) fun s h => tabsUF_ok h
theorem ob2 (s : PySem.W.SharedT) : (ob s).2 = ((tabsB tf (KK s) && (tabsU (KK s) && ex3 (KK s))) && He.tabsB (HandSHeadRun.getT s) tf (KK s)) := by
  kernel_rfl
theorem run_c (w : World) (os : OsState) : (HandSHeadRun.endF (HandSHeadRun.stepQ (HandSHeadRun.denQ HandSHeadRun.tabQ) R.prog w) 6000 R.prog w os).map (fun s => (ob s).2) = some true := by
  have e : (fun s => (ob s).2) = _ := funext ob2
  rw [e]
  exact run_bools (run_c1 w os) (run_c2 w os)
open HandSHeadRun PySem.W in
theorem run_z (w : World) (os : OsState) : (HandSHeadRun.endF (HandSHeadRun.stepQ (HandSHeadRun.denQ HandSHeadRun.tabQ) R.prog w) 6000 R.prog w os).map (fun s => (looksF R.prog (boot_heap w.params) s.abs, seenQ (PySem.W.view R.prog [32]) ("__name__" :: "ForestError" :: "Missing" :: "ParseError" :: "EmptyHistory" :: "MAX_NODES" :: "leads_to_root" :: "is_forest" :: "DIGITS" :: "MAX_DIGITS" :: "parse_number" :: "format_forest" :: "parse_parent" :: "parse_forest" :: "_law_start" :: "_law_take" :: "_law_of" :: "_law_shuffled" :: "_law_same" :: "_law_field" :: "_law_outcome" :: "_law_error" :: "_law_size" :: "_law_path" :: "_law_renamed" :: "_law_forest" :: "_law_some_forest" :: "_law_shown" :: "_law_read" :: []) (importedModules R.prog.main.body) (fun s => xlAt (PySem.W.view R.prog [32]) [] s && recOk R.toRowW.records s) s.abs, ob s)) = some (true, openGood (PySem.W.view R.prog [32]) ("__name__" :: "ForestError" :: "Missing" :: "ParseError" :: "EmptyHistory" :: "MAX_NODES" :: "leads_to_root" :: "is_forest" :: "DIGITS" :: "MAX_DIGITS" :: "parse_number" :: "format_forest" :: "parse_parent" :: "parse_forest" :: "_law_start" :: "_law_take" :: "_law_of" :: "_law_shuffled" :: "_law_same" :: "_law_field" :: "_law_outcome" :: "_law_error" :: "_law_size" :: "_law_path" :: "_law_renamed" :: "_law_forest" :: "_law_some_forest" :: "_law_shown" :: "_law_read" :: []), ((hk.val w).1, true)) := by
  have h := run_join (run_a w os) (run_b w os) (run_c w os)
  exact h
theorem run (w : World) : HandSHeadRun.RunEq R (PySem.W.view R.prog [32]) hk ob 6000 ("__name__" :: "ForestError" :: "Missing" :: "ParseError" :: "EmptyHistory" :: "MAX_NODES" :: "leads_to_root" :: "is_forest" :: "DIGITS" :: "MAX_DIGITS" :: "parse_number" :: "format_forest" :: "parse_parent" :: "parse_forest" :: "_law_start" :: "_law_take" :: "_law_of" :: "_law_shuffled" :: "_law_same" :: "_law_field" :: "_law_outcome" :: "_law_error" :: "_law_size" :: "_law_path" :: "_law_renamed" :: "_law_forest" :: "_law_some_forest" :: "_law_shown" :: "_law_read" :: []) w := by
  intro os
  refine @Eq.mpr _ _ ?_ (run_z w os)
  kernel_rfl
end K49

/-! GCore: a small core language of expressions and statements over trees and cells, and what must hold ahead of it (weakest preconditions). -/
namespace G
open PySem (Str Arguments Expr Scope)

/-- a lambda's text: its def's qualified name with <lambda>, its parameters' whole numbers as defaults -/
structure LamT where
  q : Str
  params : Arguments
  body : Expr
  scope : Scope
  dfl : List Int
  deriving Inhabited
/-- values: trees; a cell by its number; a lambda by its number, its text, its cells -/
inductive D where
  | non
  | bl (b : Bool)
  | int (i : Int)
  | str (s : Str)
  | tup (xs : List D)
  | lst (xs : List D)
  | dic (ks vs : List D)
  | ref (n : Nat)
  | scr
  | clo (j : Nat) (t : LamT) (cl : List (Str × Nat))
  deriving Inhabited

/-- what a cell holds -/
inductive Ob where
  | lst (xs : List D)
  | dic (ks vs : List D)
  | ins (C : Nat) (fs : List (Str × D))
  | drw
  | set (w : PySem.World) (m : Nat) (S : Int → Bool) (n : Nat)
  | dit (l : List (List (Sum Int Str) × D))
abbrev Cs := Nat → Option Ob
def put (cs : Cs) (n : Nat) (o : Ob) : Cs := fun m => if m = n then some o else cs m
def del (cs : Cs) (n : Nat) : Cs := fun m => if m = n then none else cs m
/-- keys as values -/
def kD : Sum Int Str → D
  | .inl i => .int i
  | .inr x => .str x
abbrev DL := List (Sum Int Str × D)
def dicO (l : DL) : Ob := .dic (l.map fun p => kD p.1) (l.map (·.2))
def putA (l : DL) (k : Sum Int Str) (d : D) : DL := if (l.any fun p => decide (p.1 = k)) = true then l.map (fun p => if p.1 = k then (p.1, d) else p) else l ++ [(k, d)]
/-- an error: the name of its class, its fields -/
structure Er where
  tag : Str
  fs : List (Str × D)
abbrev KD := D → Cs → Prop
abbrev KX := Er → Cs → Prop
abbrev Spec := List D → Cs → KD → KX → Prop
abbrev ISpec := List D → Cs → (List D → (Cs → Prop) → Prop) → Prop
abbrev Sl := List (Option D)

/-- targets -/
inductive Pat where
  | nm (i : Nat)
  | nil
  | cons (p q : Pat)
  | tup (p : Pat)
@[simp] def bindP : Pat → List D → Sl → Option Sl
  | .nm i, [d], σ => some (σ.set i (some d))
  | .nil, [], σ => some σ
  | .cons p q, d :: ds, σ => match bindP p [d] σ with
    | some σ' => bindP q ds σ'
    | none => none
  | .tup p, [.tup ds], σ => bindP p ds σ
  | _, _, _ => none

/-- an error with one field, without -/
def er (tag f : Str) (d : D) : Er := ⟨tag, [(f, d), ("tag", .str tag)]⟩
def er0 (tag : Str) : Er := ⟨tag, [("tag", .str tag)]⟩
/-- the errors' fields -/
def fname (t : Str) : Option Str :=
  if t ∈ (["BadParent", "Cycle", "NotRoot", "SameRoot", "RootsDiffer", "NoWay", "BadWeight", "NoNode"] : List Str) then some "node"
  else if t ∈ (["TooManyNodes", "TooLong", "TooManyForests", "TooManyWatches"] : List Str) then some "limit"
  else if t ∈ (["BadStep", "BadCost", "Contradiction", "ParseError"] : List Str) then some "pos"
  else if t ∈ (["SizesDiffer", "BadSize"] : List Str) then some "size"
  else if t ∈ (["BadName", "NameTaken", "NoForest"] : List Str) then some "name"
  else if t = "BadCommand" then some "word"
  else if t = "BadCount" then some "count"
  else if t = "NoWatch" then some "number"
  else none
/-- what is told of an error -/
def IsEr (x : Er) (d : D) : Prop := (∃ f, fname x.tag = some f ∧ x = er x.tag f d) ∨ (x = er0 "EmptyHistory" ∧ d = .non)
/-- the triple (answer, tag, field), without the answer -/
def outD (k : Bool) (a : D) (t : Str) (d : D) : D := if k = true then .tup [.str t, d] else .tup [a, .str t, d]
def permL {α : Type} (ix : List Nat) (l : List α) : List α := ix.filterMap fun i => l[i]?
mutual
inductive E where
  | v (i : Nat)
  | c (d : D)
  | app (sp : Spec) (as : Es)
  | appk (n m : Nat) (ix : List Nat) (sp : Spec) (as bs : Es)
  | meth (chk : D → Cs → Prop) (sp : Spec) (o : E) (as : Es)
  | ite (c a b : E)
  | and (a b : E)
  | or (a b : E)
  | chain (s1 s2 : Spec) (a b c : E)
  | comp (m : Bool) (own : List Nat) (p : Pat) (it : ISpec) (as : Es) (c e : E)
  | dcomp (own : List Nat) (p : Pat) (it : ISpec) (as : Es) (c ek ev : E)
  | comp2 (m : Bool) (own own1 : List Nat) (p : Pat) (it : ISpec) (as : Es) (p1 : Pat) (it1 : ISpec) (as1 : Es) (e : E)
  | out (k : Bool) (e : E)
  | outv (k : Bool) (cl : List (Str × Nat)) (a : E) (l : Lt)
inductive Es where
  | nil
  | cons (e : E) (es : Es)
inductive Lt where
  | nil
  | cons (t : LamT) (e : E) (r : Lt)
end

inductive S where
  | skip
  | seq (a b : S)
  | asg (p : Pat) (e : E)
  | exp (e : E)
  | ret (e : E)
  | ite (c : E) (a b : S)
  | whl (c : E) (b : S)
  | fr (p : Pat) (it : ISpec) (as : Es) (b : S)
  | brk
  | cont
  | rse (sp : List D → Er) (as : Es)
  | frz (i : Nat)
  | clr (i : Nat)
  | shut (i : Nat)
  | fin (a b : S)
  | tr (c : Er → Bool) (a : S) (b : Er → S)

@[simp] def getV : Sl → Nat → Option D
  | [], _ => none
  | x :: _, 0 => x
  | _ :: r, i + 1 => getV r i
def wipe (σ : Sl) : List Nat → Sl
  | [] => σ
  | i :: r => (wipe σ r).set i none

abbrev lim : Nat := 16777216
/-- the turns of a comprehension -/
def compL (p : Pat) (grd : Cs → Prop) (σ : Sl) (tst elt : Sl → Cs → KD → Prop) (Q : List D → Cs → Prop) : List D → List D → Cs → Prop
  | [], acc, cs => grd cs ∧ Q acc cs
  | x :: xs, acc, cs => grd cs ∧ match bindP p [x] σ with
    | none => False
    | some σ1 => tst σ1 cs fun b cs1 => (b = .bl true ∧ elt σ1 cs1 fun y cs2 => acc.length < lim ∧ compL p grd σ tst elt Q xs (acc ++ [y]) cs2) ∨ (b = .bl false ∧ compL p grd σ tst elt Q xs acc cs1)

/-- a comprehension of two clauses -/
def comp2L (p : Pat) (grd : Cs → Prop) (σ : Sl) (inn : Sl → List D → Cs → (List D → Cs → Prop) → Prop) (Q : List D → Cs → Prop) : List D → List D → Cs → Prop
  | [], acc, cs => grd cs ∧ Q acc cs
  | x :: xs, acc, cs => grd cs ∧ match bindP p [x] σ with
    | none => False
    | some σ1 => inn σ1 acc cs fun acc' cs' => comp2L p grd σ inn Q xs acc' cs'
/-- a dict comprehension: the dict is cell n from the start -/
def compD (n : Nat) (p : Pat) (grd : Cs → Prop) (σ : Sl) (tst ek ev : Sl → Cs → KD → Prop) (Q : Cs → Prop) : List D → Cs → Prop
  | [], cs => grd cs ∧ Q cs
  | x :: xs, cs => grd cs ∧ match bindP p [x] σ with
    | none => False
    | some σ1 => tst σ1 cs fun b cs1 => (b = .bl true ∧ ek σ1 cs1 fun y cs2 => ev σ1 cs2 fun z cs3 => ∃ l k, y = kD k ∧ cs3 n = some (dicO l) ∧ l.length < lim ∧ compD n p grd σ tst ek ev Q xs (put cs3 n (dicO (putA l k z)))) ∨ (b = .bl false ∧ compD n p grd σ tst ek ev Q xs cs1)
mutual
@[simp] def wpE : E → Sl → Cs → KD → KX → Prop
  | .v i, σ, cs, Q, _ => match getV σ i with
    | some d => Q d cs
    | none => False
  | .c d, _, cs, Q, _ => Q d cs
  | .app sp as, σ, cs, Q, X => wpEs as σ cs (fun ds cs' => sp ds cs' Q X) X
  | .appk n m ix sp as bs, σ, cs, Q, X => wpEs as σ cs (fun ds c1 => wpEs bs σ c1 (fun es c2 => ds.length = n ∧ es.length = m ∧ sp (permL ix (ds ++ es)) c2 Q X) X) X
  | .meth chk sp o as, σ, cs, Q, X => wpE o σ cs (fun d c1 => chk d c1 ∧ wpEs as σ c1 (fun ds c2 => sp (d :: ds) c2 Q X) X) X
  | .ite c a b, σ, cs, Q, X => wpE c σ cs (fun d cs' => match d with
    | .bl k => if k = true then wpE a σ cs' Q X else wpE b σ cs' Q X
    | _ => False) X
  | .and a b, σ, cs, Q, X => wpE a σ cs (fun d cs' => match d with
    | .bl k => if k = true then wpE b σ cs' Q X else Q (.bl false) cs'
    | _ => False) X
  | .or a b, σ, cs, Q, X => wpE a σ cs (fun d cs' => match d with
    | .bl k => if k = true then Q (.bl true) cs' else wpE b σ cs' Q X
    | _ => False) X
  | .chain s1 s2 a b c, σ, cs, Q, X => wpE a σ cs (fun x c1 => wpE b σ c1 (fun y c2 => s1 [x, y] c2 (fun d c3 => match d with
    | .bl k => if k = true then wpE c σ c3 (fun z c4 => s2 [y, z] c4 (fun d c5 => match d with
      | .bl k' => Q (.bl k') c5
      | _ => False) X) X else Q (.bl false) c3
    | _ => False) X) X) X
  | .comp m own p it as c e, σ, cs, Q, X => wpEs as σ cs (fun ds c1 => it ds c1 fun items grd =>
      compL p grd (wipe σ own) (fun σ1 c2 K => wpE c σ1 c2 K (fun _ _ => False)) (fun σ1 c2 K => wpE e σ1 c2 K (fun _ _ => False))
        (fun ys c3 => if m = true then ∀ n, c3 n = none → Q (.ref n) (put c3 n (.lst ys)) else Q (.lst ys) c3) items [] c1) X
  | .dcomp own p it as c ek ev, σ, cs, Q, X => wpEs as σ cs (fun ds c1 => it ds c1 fun items grd => ∀ n, c1 n = none →
      compD n p grd (wipe σ own) (fun σ1 c2 K => wpE c σ1 c2 K (fun _ _ => False)) (fun σ1 c2 K => wpE ek σ1 c2 K (fun _ _ => False)) (fun σ1 c2 K => wpE ev σ1 c2 K (fun _ _ => False)) (fun c3 => Q (.ref n) c3) items (put c1 n (dicO []))) X
  | .comp2 m own own1 p it as p1 it1 as1 e, σ, cs, Q, X => wpEs as σ cs (fun ds c1 => it ds c1 fun items grd =>
      comp2L p grd (wipe σ own) (fun σ1 acc c2 K => wpEs as1 σ1 c2 (fun ds1 c3 => it1 ds1 c3 fun items1 grd1 =>
        compL p1 grd1 (wipe σ1 own1) (fun _ c4 K => K (.bl true) c4) (fun σ2 c4 K => wpE e σ2 c4 K (fun _ _ => False)) K items1 acc c3) (fun _ _ => False))
        (fun ys c3 => if m = true then ∀ n, c3 n = none → Q (.ref n) (put c3 n (.lst ys)) else Q (.lst ys) c3) items [] c1) X
  | .out k e, σ, cs, Q, _ => wpE e σ cs (fun d c1 => Q (outD k d "" .non) c1) (fun x c1 => ∃ d, IsEr x d ∧ Q (outD k .non x.tag d) c1)
  | .outv k cl a l, σ, cs, Q, X => wpE a σ cs (fun d c1 => match d with
    | .clo j t cl' => cl' = cl ∧ wpL j l t σ c1 (fun d c2 => Q (outD k d "" .non) c2) (fun x c2 => ∃ d, IsEr x d ∧ Q (outD k .non x.tag d) c2)
    | _ => False) X
@[simp] def wpEs : Es → Sl → Cs → (List D → Cs → Prop) → KX → Prop
  | .nil, _, cs, Q, _ => Q [] cs
  | .cons e es, σ, cs, Q, X => wpE e σ cs (fun d c1 => wpEs es σ c1 (fun ds c2 => Q (d :: ds) c2) X) X
@[simp] def wpL : Nat → Lt → LamT → Sl → Cs → KD → KX → Prop
  | 0, .cons t' e _, t, σ, cs, Q, X => t = t' ∧ wpE e σ cs Q X
  | j + 1, .cons _ _ r, t, σ, cs, Q, X => wpL j r t σ cs Q X
  | _, .nil, _, _, _, _, _ => False
end

structure Ends where
  nx : Sl → Cs → Prop
  bk : Sl → Cs → Prop := fun _ _ => False
  ct : Sl → Cs → Prop := fun _ _ => False
  rt : KD
  ex : Er → Sl → Cs → Prop := fun _ _ _ => False

def forL (p : Pat) (grd : Cs → Prop) (body : Sl → Cs → Ends → Prop) (K : Ends) : List D → Sl → Cs → Prop
  | [], σ, cs => grd cs ∧ K.nx σ cs
  | x :: xs, σ, cs => grd cs ∧ match bindP p [x] σ with
    | none => False
    | some σ1 => body σ1 cs { nx := fun σ' cs' => forL p grd body K xs σ' cs', ct := fun σ' cs' => forL p grd body K xs σ' cs', bk := K.nx, rt := K.rt, ex := K.ex }
def whlN (tst : Sl → Cs → KD → KX → Prop) (body : Sl → Cs → Ends → Prop) (K : Ends) : Nat → Sl → Cs → Prop
  | 0, _, _ => False
  | n + 1, σ, cs => tst σ cs (fun d cs' => (d = .bl true ∧ body σ cs' { nx := fun σ' cs' => whlN tst body K n σ' cs', ct := fun σ' cs' => whlN tst body K n σ' cs', bk := K.nx, rt := K.rt, ex := K.ex }) ∨ (d = .bl false ∧ K.nx σ cs')) fun x cs' => K.ex x σ cs'

@[simp] def wpS : S → Sl → Cs → Ends → Prop
  | .skip, σ, cs, K => K.nx σ cs
  | .seq a b, σ, cs, K => wpS a σ cs { nx := fun σ' cs' => wpS b σ' cs' K, bk := K.bk, ct := K.ct, rt := K.rt, ex := K.ex }
  | .asg p e, σ, cs, K => wpE e σ cs (fun d cs' => match bindP p [d] σ with
    | some σ' => K.nx σ' cs'
    | none => False) fun x cs' => K.ex x σ cs'
  | .exp e, σ, cs, K => wpE e σ cs (fun _ cs' => K.nx σ cs') fun x cs' => K.ex x σ cs'
  | .ret e, σ, cs, K => wpE e σ cs K.rt fun x cs' => K.ex x σ cs'
  | .ite c a b, σ, cs, K => wpE c σ cs (fun d cs' => match d with
    | .bl k => if k = true then wpS a σ cs' K else wpS b σ cs' K
    | _ => False) fun x cs' => K.ex x σ cs'
  | .whl c b, σ, cs, K => ∃ n, whlN (wpE c) (wpS b) K n σ cs
  | .fr p it as b, σ, cs, K => wpEs as σ cs (fun ds c1 => it ds c1 fun items grd => forL p grd (wpS b) K items σ c1) fun x cs' => K.ex x σ cs'
  | .brk, σ, cs, K => K.bk σ cs
  | .cont, σ, cs, K => K.ct σ cs
  | .rse sp as, σ, cs, K => wpEs as σ cs (fun ds cs' => K.ex (sp ds) σ cs') fun x cs' => K.ex x σ cs'
  | .clr i, σ, cs, K => i < σ.length ∧ K.nx (σ.set i none) cs
  | .shut i, σ, cs, K => match getV σ i with
    | some (.ref n) => match cs n with
      | some (.dic ks vs) => K.nx (σ.set i (some (.dic (.non :: ks) vs))) (del cs n)
      | _ => False
    | _ => False
  | .fin a b, σ, cs, K => wpS a σ cs { nx := fun σ' cs' => wpS b σ' cs' { nx := K.nx, rt := fun _ _ => False }, rt := fun _ _ => False, ex := fun x σ' cs' => wpS b σ' cs' { nx := fun σ2 cs2 => K.ex x σ2 cs2, rt := fun _ _ => False } }
  | .tr c a b, σ, cs, K => wpS a σ cs { nx := K.nx, bk := K.bk, ct := K.ct, rt := K.rt, ex := fun x σ' cs' => if c x = true then wpS (b x) σ' cs' K else K.ex x σ' cs' }
  | .frz i, σ, cs, K => match getV σ i with
    | some (.ref n) => match cs n with
      | some (.lst xs) => K.nx (σ.set i (some (.lst xs))) (del cs n)
      | some (.dic ks vs) => K.nx (σ.set i (some (.dic ks vs))) (del cs n)
      | some (.dit l) => K.nx (σ.set i (some (.dic (l.map fun p => .tup (p.1.map kD)) (l.map (·.2))))) (del cs n)
      | _ => False
    | _ => False

/-- a def's start: the arguments, then the names without a value -/
def start (n : Nat) (ds : List D) : Sl := ds.map some ++ List.replicate (n - ds.length) none
def okFn (n : Nat) (body : S) (sp : Spec) : Prop := ∀ ds cs Q X, sp ds cs Q X → wpS body (start n ds) cs { nx := fun _ cs' => Q .non cs', rt := Q, ex := fun x _ cs' => X x cs' }

/-! ### a draw -/
structure DrwOk (ns : List Int) (p c z : Int) : Prop where
  len : ns.length ≤ 63
  big : ∀ n ∈ ns, n.natAbs < 2 ^ (2 ^ 20)
  p0 : 0 ≤ p
  c0 : 0 ≤ c
  z0 : 0 ≤ z
  z1 : z < 2305843009213693951
/-! ### operations -/
def getL : D → Cs → Option (List D)
  | .lst xs, _ => some xs
  | .ref n, cs => match cs n with
    | some (.lst xs) => some xs
    | _ => none
  | _, _ => none
def getQ : D → Cs → Option (List D)
  | .tup xs, _ => some xs
  | d, cs => getL d cs
/-- the place that an index names -/
def ixn (n : Nat) (i : Int) : Option Nat := if 0 ≤ i then (if i < n then some i.toNat else none) else if -(n : Int) ≤ i then some (i + n).toNat else none
def ix (xs : List D) (i : Int) : Option D := (ixn xs.length i).bind fun j => xs[j]?
mutual
def eqD : D → D → Bool
  | .non, .non => true
  | .bl a, .bl b => a == b
  | .bl a, .int j => (if a then 1 else 0) == j
  | .int i, .bl b => i == (if b then 1 else 0)
  | .int i, .int j => i == j
  | .str x, .str y => x == y
  | .lst xs, .lst ys => eqDs xs ys
  | .tup xs, .tup ys => eqDs xs ys
  | _, _ => false
def eqDs : List D → List D → Bool
  | [], [] => true
  | x :: xs, y :: ys => eqD x y && eqDs xs ys
  | _, _ => false
end
def strOk (x : Str) : Bool := x.cps.all (· < 0x110000)
mutual
/-- a tree of plain data, not deeper -/
def pur : Nat → D → Bool
  | _, .non => true
  | _, .bl _ => true
  | _, .int _ => true
  | _, .str x => strOk x
  | k + 1, .lst xs => decide (xs.length ≤ lim) && purs k xs
  | k + 1, .tup xs => decide (xs.length ≤ lim) && purs k xs
  | _, _ => false
def purs : Nat → List D → Bool
  | _, [] => true
  | k, x :: xs => pur k x && purs k xs
end
/-- a cell's list as a tree -/
def deref (cs : Cs) : D → D
  | .ref n => match cs n with
    | some (.lst xs) => .lst xs
    | _ => .ref n
  | d => d
def flat : D → Bool
  | .non => true
  | .bl _ => true
  | .int _ => true
  | .str _ => true
  | _ => false
def inD (x : D) (xs : List D) : Bool := xs.any fun y => eqD y x

def sInt (C : Int → Int → Prop) (f : Int → Int → D) : Spec := fun ds cs Q _ => match ds with
  | [.int i, .int j] => C i j ∧ Q (f i j) cs
  | _ => False
def CTrue (_ _ : Int) : Prop := True
def mulOk (i j : Int) : Prop := (-(2 ^ 64) < i ∧ i < 2 ^ 64) ∨ (-(2 ^ 64) < j ∧ j < 2 ^ 64) ∨ i.natAbs.log2 + j.natAbs.log2 < 1000000
def divOk (_ j : Int) : Prop := 0 < j ∧ j.natAbs.log2 < 9000
def modOk (_ j : Int) : Prop := 0 < j
def powOk (i j : Int) : Prop := 0 ≤ j ∧ j ≤ 1000000 ∧ i.natAbs < 2 ^ 64
/-- +: ints, texts, lists, tuples -/
def sAdd : Spec := fun ds cs Q _ => match ds with
  | [.int i, .int j] => Q (.int (i + j)) cs
  | [.str a, .str b] => a.length + b.length ≤ lim ∧ Q (.str (a ++ b)) cs
  | [.tup a, .tup b] => a ≠ [] ∧ a.length + b.length ≤ lim ∧ Q (.tup (a ++ b)) cs
  | [x, y] => match getL x cs, getL y cs with
    | some a, some b => a.length + b.length ≤ lim ∧ Q (.lst (a ++ b)) cs
    | _, _ => False
  | _ => False
def sSub : Spec := sInt CTrue fun i j => .int (i - j)
def sMul : Spec := sInt mulOk fun i j => .int (i * j)
def sDiv : Spec := sInt divOk fun i j => .int (i / j)
def sMod : Spec := sInt modOk fun i j => .int (i % j)
def sPow : Spec := sInt powOk fun i j => .int (i ^ j.toNat)
def sLt : Spec := sInt CTrue fun i j => .bl (decide (i < j))
def sLe : Spec := sInt CTrue fun i j => .bl (decide (i ≤ j))
def sGt : Spec := sInt CTrue fun i j => .bl (decide (j < i))
def sGe : Spec := sInt CTrue fun i j => .bl (decide (j ≤ i))
def sNeg : Spec := fun ds cs Q _ => match ds with
  | [.int i] => Q (.int (-i)) cs
  | _ => False
def sNot : Spec := fun ds cs Q _ => match ds with
  | [.bl b] => Q (.bl (!b)) cs
  | _ => False
def sEq : Spec := fun ds cs Q _ => match ds with
  | [x, y] => pur 64 (deref cs x) = true ∧ pur 64 (deref cs y) = true ∧ Q (.bl (eqD (deref cs x) (deref cs y))) cs
  | _ => False
def sNe : Spec := fun ds cs Q _ => match ds with
  | [x, y] => pur 64 (deref cs x) = true ∧ pur 64 (deref cs y) = true ∧ Q (.bl (!eqD (deref cs x) (deref cs y))) cs
  | _ => False
def isN : D → Bool
  | .non => true
  | _ => false
def sIsN : Spec := fun ds cs Q _ => match ds with
  | [x, .non] => Q (.bl (isN x)) cs
  | _ => False
def sNotN : Spec := fun ds cs Q _ => match ds with
  | [x, .non] => Q (.bl (!isN x)) cs
  | _ => False
/-- in a list or tuple of flat things -/
def sIn : Spec := fun ds cs Q _ => match ds with
  | [x, y] => match getQ y cs with
    | some xs => flat x = true ∧ xs.all flat = true ∧ Q (.bl (inD x xs)) cs
    | none => False
  | _ => False
def sLen : Spec := fun ds cs Q _ => match ds with
  | [.str s] => s.length ≤ lim ∧ Q (.int s.length) cs
  | [x] => match getQ x cs with
    | some xs => Q (.int xs.length) cs
    | none => False
  | _ => False
def sIx : Spec := fun ds cs Q _ => match ds with
  | [x, .int i] => match getQ x cs with
    | some xs => match ix xs i with
      | some d => Q d cs
      | none => False
    | none => False
  | _ => False
/-- displays -/
def sList : Spec := fun ds cs Q _ => ds.length ≤ lim ∧ Q (.lst ds) cs
def sListM : Spec := fun ds cs Q _ => ds.length ≤ lim ∧ ∀ n, cs n = none → Q (.ref n) (put cs n (.lst ds))
def sTup : Spec := fun ds cs Q _ => ds.length ≤ lim ∧ Q (.tup ds) cs
/-- list(x): a tree; a cell -/
def sListOf : Spec := fun ds cs Q _ => match ds with
  | [x] => match getQ x cs with
    | some xs => Q (.lst xs) cs
    | none => False
  | _ => False
def sListOfM : Spec := fun ds cs Q _ => match ds with
  | [x] => match getQ x cs with
    | some xs => ∀ n, cs n = none → Q (.ref n) (put cs n (.lst xs))
    | none => False
  | _ => False
def sTupOf : Spec := fun ds cs Q _ => match ds with
  | [x] => match getQ x cs with
    | some xs => Q (.tup xs) cs
    | none => False
  | _ => False
def rgD (a b : Int) : List D := (List.range (b - a).toNat).map fun i => D.int (a + (i : Nat))
/-- list(range(a, b)), tuple(range(a, b)) -/
def sListRg : Spec := fun ds cs Q _ => match ds with
  | [.int a, .int b] => -(2 ^ 62) ≤ a ∧ a < 2 ^ 62 ∧ -(2 ^ 62) ≤ b ∧ b < 2 ^ 62 ∧ (b - a).toNat ≤ lim ∧ Q (.lst (rgD a b)) cs
  | _ => False
/-- xs * k: a cell -/
def sRepM : Spec := fun ds cs Q _ => match ds with
  | [x, .int k] => match getL x cs with
    | some xs => -(2 ^ 63) ≤ k ∧ k < 2 ^ 63 ∧ xs.length * k.toNat ≤ lim ∧ ∀ n, cs n = none → Q (.ref n) (put cs n (.lst (List.replicate k.toNat xs).flatten))
    | none => False
  | _ => False
def sRep : Spec := fun ds cs Q _ => match ds with
  | [x, .int k] => match getL x cs with
    | some xs => -(2 ^ 63) ≤ k ∧ k < 2 ^ 63 ∧ xs.length * k.toNat ≤ lim ∧ Q (.lst (List.replicate k.toNat xs).flatten) cs
    | none => False
  | _ => False
def sIxAt (n d : Nat) : Option Int → Nat
  | none => d
  | some i => if i < 0 then (i + n).toNat else min i.toNat n
/-- a cell is changed -/
def sAppend : Spec := fun ds cs Q _ => match ds with
  | [.ref n, y] => match cs n with
    | some (.lst xs) => xs.length < lim ∧ Q .non (put cs n (.lst (xs ++ [y])))
    | _ => False
  | _ => False
def sInsert : Spec := fun ds cs Q _ => match ds with
  | [.ref n, .int i, y] => match cs n with
    | some (.lst xs) => xs.length < lim ∧ 0 ≤ i ∧ i < 2 ^ 63 ∧ Q .non (put cs n (.lst (xs.take i.toNat ++ [y] ++ xs.drop i.toNat)))
    | _ => False
  | _ => False
/-- value, list, place -/
def sSetIx : Spec := fun ds cs Q _ => match ds with
  | [v, .ref n, .int i] => match cs n with
    | some (.lst xs) => match ixn xs.length i with
      | some j => Q .non (put cs n (.lst (xs.set j v)))
      | none => False
    | _ => False
  | _ => False
def chkL (d : D) (cs : Cs) : Prop := match getL d cs with
  | some _ => True
  | none => False
/-- the script, cut to 63 items -/
def sCutScr : Spec := fun ds cs Q _ => match ds with
  | [.scr] => ∀ ns : List Int, ns.length ≤ 63 → (∀ n ∈ ns, n.natAbs < 2 ^ (2 ^ 20)) → Q (.lst (ns.map D.int)) cs
  | _ => False
def sMax2 : Spec := sInt CTrue fun i j => .int (if j > i then j else i)
def sMin2 : Spec := sInt CTrue fun i j => .int (if j < i then j else i)
def asBools : List D → Option (List Bool)
  | [] => some []
  | .bl b :: r => (asBools r).map (b :: ·)
  | _ => none
def asInts : List D → Option (List Int)
  | [] => some []
  | .int b :: r => (asInts r).map (b :: ·)
  | _ => none
def sAll : Spec := fun ds cs Q _ => match ds with
  | [x] => match getL x cs with
    | some xs => match asBools xs with
      | some bs => Q (.bl (bs.all id)) cs
      | none => False
    | none => False
  | _ => False
/-- isinstance: the kinds -/
inductive Ty where
  | int | bool | str | list | tuple
def isTy (cs : Cs) : D → Ty → Option Bool
  | .non, _ => some false
  | .bl _, .int => some true
  | .bl _, .bool => some true
  | .bl _, _ => some false
  | .int _, .int => some true
  | .int _, _ => some false
  | .str _, .str => some true
  | .str _, _ => some false
  | .tup _, .tuple => some true
  | .tup _, _ => some false
  | .lst _, .list => some true
  | .lst _, _ => some false
  | .dic _ _, _ => none
  | .scr, _ => none
  | .clo _ _ _, _ => none
  | .ref n, t => match cs n, t with
    | some (.lst _), .list => some true
    | some (.lst _), _ => some false
    | _, _ => none
def sIsi (t : Ty) : Spec := fun ds cs Q _ => match ds with
  | [x] => match isTy cs x t with
    | some b => Q (.bl b) cs
    | none => False
  | _ => False
/-- isinstance(x, (s, t)) -/
def sIsi2 (s t : Ty) : Spec := fun ds cs Q _ => match ds with
  | [x] => match isTy cs x s, isTy cs x t with
    | some a, some b => Q (.bl (a || b)) cs
    | _, _ => False
  | _ => False

/-! ### what is walked -/
def grdL (d : D) (cs : Cs) : Cs → Prop := fun cs' => match d with
  | .ref n => cs' n = cs n
  | _ => True
def iSeq : ISpec := fun ds cs R => match ds with
  | [x] => match getQ x cs with
    | some xs => R xs (grdL x cs)
    | none => False
  | _ => False
def iRng1 : ISpec := fun ds _ R => match ds with
  | [.int b] => -(2 ^ 62) ≤ b ∧ b < 2 ^ 62 ∧ R (rgD 0 b) (fun _ => True)
  | _ => False
def enumD (n : Int) : List D → List D
  | [] => []
  | x :: r => .tup [.int n, x] :: enumD (n + 1) r
def iEnum : ISpec := fun ds cs R => match ds with
  | [x] => match getQ x cs with
    | some xs => R (enumD 0 xs) (grdL x cs)
    | none => False
  | _ => False
def zipD : List D → List D → List D
  | x :: r, y :: s => .tup [x, y] :: zipD r s
  | _, _ => []
def iZip : ISpec := fun ds cs R => match ds with
  | [x, y] => match x, y with
    | .tup xs, .tup ys => R (zipD xs ys) (fun _ => True)
    | x, y => match getL x cs, getL y cs with
      | some xs, some ys => R (zipD xs ys) (fun c => grdL x cs c ∧ grdL y cs c)
      | _, _ => False
  | _ => False
end G

/-! GRel: how trees and cells lie in the abstract heap. -/
namespace G
open PySem L2
open Evl (Ex)

/-- a lambda as it lies: its code object at c, its defaults dV -/
def LamO (f c : Addr) (t : LamT) (cl : List (Str × Addr)) (dV : Value) : HO := .ext fun h => ∃ pm ctv : Value, h.get? f = some { cls := .type "function", data := .func { PySem.W.kla_fn "<lambda>" t.q t.params t.body t.scope cl pm (.ref c) ctv with defaults := dV } }
/-- a world: the known part of the heap, the cells' addresses, the tables of code objects -/
structure Wd where
  B : Hp
  r : Nat → Option Addr
  k : Nat
structure Wd.le (a b : Wd) : Prop where
  B : Ex a.B b.B
  r : ∀ n x, a.r n = some x → b.r n = some x
theorem Wd.le.refl (a : Wd) : a.le a := ⟨Ex.refl _, fun _ _ h => h⟩
theorem Wd.le.trans {a b c : Wd} (h : a.le b) (k : b.le c) : a.le c := ⟨h.B.trans k.B, fun n x e => k.r n x (h.r n x e)⟩

section
variable (K : PySem.W.Frag)
mutual
def Rp (wd : Wd) : D → V → Prop
  | .non, v => v = .non
  | .bl b, v => v = .bl b
  | .int i, v => v = .int i
  | .str s, v => v = .str s
  | .tup ds, v => ∃ a xs, v = .ref a ∧ wd.B a = some (.tup xs) ∧ RpL wd ds xs
  | .lst ds, v => ∃ a xs, v = .ref a ∧ wd.B a = some (.lst xs) ∧ RpL wd ds xs
  | .dic ks vs, v => ∃ a o, v = .ref a ∧ ((∃ kvs : List (L2.Key × V), wd.B a = some (.frz o (.dK kvs)) ∧ ks = kvs.map (fun p => kD p.1) ∧ RpL wd vs (kvs.map (·.2))) ∨ (∃ kvs : List (List L2.Key × V), wd.B a = some (.frz o (.dT kvs)) ∧ ks = kvs.map (fun p => D.tup (p.1.map kD)) ∧ RpL wd vs (kvs.map (·.2))) ∨ ∃ kvs : List (L2.Key × V), wd.B a = some (.frz o (.dK kvs)) ∧ ks = .non :: kvs.map (fun p => kD p.1) ∧ RpL wd vs (kvs.map (·.2)))
  | .ref n, v => ∃ a, wd.r n = some a ∧ v = .ref a
  | .scr, v => ∃ (a : Addr) (ns : List Int), v = .ref a ∧ SqL K wd.B a (ns.map V.int) ∧ ns.length ≤ 63 ∧ ∀ n ∈ ns, n.natAbs < 2 ^ (2 ^ 20)
  | .clo _ t cl, v => ∃ (f c : Addr) (dV : Value), v = .ref f ∧ wd.B f = some (LamO f c t (L2.cloFrom cl t.scope.names []) dV) ∧ wd.B c = some (LamX.CodeO c t.q) ∧ ((t.dfl = [] ∧ dV = .none) ∨ (t.dfl ≠ [] ∧ ∃ p, dV = .ref p ∧ wd.B p = some (.tup (t.dfl.map V.int))))
def RpL (wd : Wd) : List D → List V → Prop
  | [], vs => vs = []
  | d :: ds, vs => ∃ v r, vs = v :: r ∧ Rp wd d v ∧ RpL wd ds r
end
variable {K} {wd wd' : Wd}
mutual
theorem Rp.mono (h : wd.le wd') : ∀ (d : D) (v : V), Rp K wd d v → Rp K wd' d v
  | .non, _, q => q
  | .bl _, _, q => q
  | .int _, _, q => q
  | .str _, _, q => q
  | .tup ds, v, q => by
    obtain ⟨a, xs, e, s, r⟩ := q
    exact ⟨a, xs, e, h.B a _ s, RpL.mono h ds xs r⟩
  | .lst ds, v, q => by
    obtain ⟨a, xs, e, s, r⟩ := q
    exact ⟨a, xs, e, h.B a _ s, RpL.mono h ds xs r⟩
  | .dic ks vs, v, q => by
    obtain ⟨a, o, e, q⟩ := q
    rcases q with ⟨kvs, h1, h2, h3⟩ | ⟨kvs, h1, h2, h3⟩ | ⟨kvs, h1, h2, h3⟩
    · exact ⟨a, o, e, .inl ⟨kvs, h.B a _ h1, h2, RpL.mono h vs _ h3⟩⟩
    · exact ⟨a, o, e, .inr (.inl ⟨kvs, h.B a _ h1, h2, RpL.mono h vs _ h3⟩)⟩
    · exact ⟨a, o, e, .inr (.inr ⟨kvs, h.B a _ h1, h2, RpL.mono h vs _ h3⟩)⟩
  | .scr, v, q => by
    obtain ⟨a, ns, e, s, r⟩ := q
    exact ⟨a, ns, e, Evl.ex_l h.B s, r⟩
  | .ref n, v, q => by
    obtain ⟨a, e, z⟩ := q
    exact ⟨a, h.r n a e, z⟩
  | .clo _ _ _, v, q => by
    obtain ⟨f, c, dV, e, h1, h2, h3⟩ := q
    exact ⟨f, c, dV, e, h.B _ _ h1, h.B _ _ h2, h3.imp id fun ⟨n, p, e, z⟩ => ⟨n, p, e, h.B _ _ z⟩⟩
theorem RpL.mono (h : wd.le wd') : ∀ (ds : List D) (vs : List V), RpL K wd ds vs → RpL K wd' ds vs
  | [], _, q => q
  | d :: ds, vs, q => by
    obtain ⟨v, r, e, a, b⟩ := q
    exact ⟨v, r, e, Rp.mono h d v a, RpL.mono h ds r b⟩
end
theorem RpL.length : ∀ {ds : List D} {vs : List V}, RpL K wd ds vs → vs.length = ds.length
  | [], vs, q => by
    have e : vs = [] := q
    rw [e]
    rfl
  | d :: ds, vs, q => by
    obtain ⟨v, r, e, a, b⟩ := q
    rw [e, List.length_cons, List.length_cons, RpL.length b]
theorem RpL.get : ∀ {ds : List D} {vs : List V} {i : Nat} {d : D}, RpL K wd ds vs → ds[i]? = some d → ∃ v, vs[i]? = some v ∧ Rp K wd d v
  | [], _, _, _, _, e => by simp at e
  | d :: ds, vs, 0, d', q, e => by
    obtain ⟨v, r, ev, a, b⟩ := q
    simp at e
    subst e ev
    exact ⟨v, rfl, a⟩
  | d :: ds, vs, i + 1, d', q, e => by
    obtain ⟨v, r, ev, a, b⟩ := q
    subst ev
    obtain ⟨v', h1, h2⟩ := RpL.get (i := i) (d := d') b (by simpa using e)
    exact ⟨v', by simpa using h1, h2⟩
theorem RpL.append : ∀ {ds es : List D} {vs ws : List V}, RpL K wd ds vs → RpL K wd es ws → RpL K wd (ds ++ es) (vs ++ ws)
  | [], es, vs, ws, h, k => by
    have e : vs = [] := h
    subst e
    exact k
  | d :: ds, es, vs, ws, h, k => by
    obtain ⟨v, r, e, a, b⟩ := h
    subst e
    exact ⟨v, r ++ ws, rfl, a, RpL.append b k⟩
theorem RpL.set : ∀ {ds : List D} {vs : List V} {i : Nat} {d : D} {v : V}, RpL K wd ds vs → Rp K wd d v → RpL K wd (ds.set i d) (vs.set i v)
  | [], vs, _, _, _, h, _ => by
    have e : vs = [] := h
    subst e
    exact rfl
  | d :: ds, vs, 0, d', v', h, k => by
    obtain ⟨v, r, e, a, b⟩ := h
    subst e
    exact ⟨v', r, rfl, k, b⟩
  | d :: ds, vs, i + 1, d', v', h, k => by
    obtain ⟨v, r, e, a, b⟩ := h
    subst e
    exact ⟨v, r.set i v', rfl, a, RpL.set b k⟩
theorem RpL.take : ∀ {ds : List D} {vs : List V} (n : Nat), RpL K wd ds vs → RpL K wd (ds.take n) (vs.take n)
  | [], vs, n, h => by
    have e : vs = [] := h
    subst e
    rw [List.take_nil, List.take_nil]
    exact rfl
  | d :: ds, vs, 0, h => rfl
  | d :: ds, vs, n + 1, h => by
    obtain ⟨v, r, e, a, b⟩ := h
    subst e
    exact ⟨v, r.take n, rfl, a, RpL.take n b⟩
theorem RpL.drop : ∀ {ds : List D} {vs : List V} (n : Nat), RpL K wd ds vs → RpL K wd (ds.drop n) (vs.drop n)
  | [], vs, n, h => by
    have e : vs = [] := h
    subst e
    rw [List.drop_nil, List.drop_nil]
    exact rfl
  | d :: ds, vs, 0, h => h
  | d :: ds, vs, n + 1, h => by
    obtain ⟨v, r, e, a, b⟩ := h
    subst e
    exact RpL.drop n b
theorem RpL.one {d : D} {vs : List V} (h : RpL K wd [d] vs) : ∃ v, vs = [v] ∧ Rp K wd d v := by
  obtain ⟨v, r, e, a, b⟩ := h
  have e2 : r = [] := b
  subst e2
  exact ⟨v, e, a⟩
theorem RpL.two {d e : D} {vs : List V} (h : RpL K wd [d, e] vs) : ∃ v w, vs = [v, w] ∧ Rp K wd d v ∧ Rp K wd e w := by
  obtain ⟨v, r, e1, a, b⟩ := h
  obtain ⟨w, e2, c⟩ := RpL.one b
  subst e2
  exact ⟨v, w, e1, a, c⟩
theorem RpL.three {d e f : D} {vs : List V} (h : RpL K wd [d, e, f] vs) : ∃ v w u, vs = [v, w, u] ∧ Rp K wd d v ∧ Rp K wd e w ∧ Rp K wd f u := by
  obtain ⟨v, r, e1, a, b⟩ := h
  obtain ⟨w, u, e2, c, d⟩ := RpL.two b
  subst e2
  exact ⟨v, w, u, e1, a, c, d⟩
end

/-- a cell's content -/
def RpO (K : PySem.W.Frag) (wd : Wd) : Ob → HO → Prop
  | .lst ds, o => ∃ xs, o = .lst xs ∧ RpL K wd ds xs
  | .dic ks vs, o => ∃ kvs : List (L2.Key × V), o = .dK kvs ∧ ks = kvs.map (fun p => kD p.1) ∧ RpL K wd vs (kvs.map (·.2))
  | .ins C fs, o => ∃ (dx : Addr) (gs : List (Str × V)), o = .ins C dx gs ∧ gs.map (·.1) = fs.map (·.1) ∧ RpL K wd (fs.map (·.2)) (gs.map (·.2))
  | .set w m S n, o => ∃ a, wd.r m = some a ∧ o = SetO w a S n
  | .dit l, o => ∃ kvs : List (List L2.Key × V), o = .dT kvs ∧ l.map (·.1) = kvs.map (·.1) ∧ RpL K wd (l.map (·.2)) (kvs.map (·.2))
  | .drw, o => ∃ (ns : List Int) (p c z : Int) (a : Addr), o = .lst [.ref a, .int p, .int c, .int z] ∧ wd.B a = some (.lst (ns.map V.int)) ∧ DrwOk ns p c z
theorem RpO.mono {K : PySem.W.Frag} {wd wd' : Wd} (h : wd.le wd') : ∀ {o : Ob} {u : HO}, RpO K wd o u → RpO K wd' o u
  | .lst ds, _, ⟨xs, e, r⟩ => ⟨xs, e, RpL.mono h ds xs r⟩
  | .dic ks vs, _, ⟨kvs, e, k, r⟩ => ⟨kvs, e, k, RpL.mono h vs _ r⟩
  | .ins _ _, _, ⟨dx, gs, e, k, r⟩ => ⟨dx, gs, e, k, RpL.mono h _ _ r⟩
  | .set _ m _ _, _, ⟨a, e, z⟩ => ⟨a, h.r m a e, z⟩
  | .dit l, _, ⟨kvs, e, k, r⟩ => ⟨kvs, e, k, RpL.mono h _ _ r⟩
  | .drw, _, ⟨ns, p, c, z, a, e, s, r⟩ => ⟨ns, p, c, z, a, e, h.B a _ s, r⟩
theorem RpO.notbl {K : PySem.W.Frag} {wd : Wd} : ∀ {o : Ob} {u : HO}, RpO K wd o u → ∀ q, u ≠ .tbl q
  | .lst ds, _, ⟨xs, e, r⟩, q => by rw [e]; intro z; cases z
  | .dic _ _, _, ⟨kvs, e, _⟩, q => by rw [e]; intro z; cases z
  | .ins _ _, _, ⟨dx, gs, e, _⟩, q => by rw [e]; intro z; cases z
  | .set _ _ _ _, _, ⟨a, _, e⟩, q => by rw [e]; intro z; cases z
  | .dit _, _, ⟨kvs, e, _⟩, q => by rw [e]; intro z; cases z
  | .drw, _, ⟨ns, p, c, z, a, e, s, r⟩, q => by rw [e]; intro z; cases z
/-- the table at P: each code object that it tells is known and bears the name q -/
def TabB' (B H : Hp) (P : Addr) (q : Str) : Prop := ∃ ps : Array Value, H P = some (.tbl ps) ∧ TriplesOk ps.toList ∧ ∀ (pos : Pos) (cv : Value), codeAmong pos ps.toList = some cv → ∃ c, cv = .ref c ∧ B c = some (LamX.CodeO c q)
/-- no table of code objects, no tuple -/
def NT (o : HO) : Prop := (∀ q, o ≠ .tbl q) ∧ ∀ xs, o ≠ .tup xs
theorem NT.lst {xs : List V} : NT (.lst xs) := ⟨fun _ z => (by cases z), fun _ z => (by cases z)⟩
/-- the state: H holds the world's known part, an untold part F that stays, the cells -/
structure Rl (K : PySem.W.Frag) (wd : Wd) (F : Hp) (cs : Cs) (H : Hp) : Prop where
  b : Ex wd.B H
  f : Ex F H
  bf : ∀ a o, wd.B a = some o → F a = none
  inj : ∀ n m a, wd.r n = some a → wd.r m = some a → n = m
  cell : ∀ n o, cs n = some o → ∃ a u, wd.r n = some a ∧ wd.B a = none ∧ F a = none ∧ H a = some u ∧ RpO K wd o u
  ran : ∀ n a, wd.r n = some a → ∃ o, H a = some o ∧ ∀ q, o ≠ .tbl q
  top : ∀ n, wd.k ≤ n → wd.r n = none
  rf : ∀ n a, wd.r n = some a → F a = none
  fe : ∀ a o, F a = some o → NT o
  tab : ∀ p ∈ tabsOf K, TabB' wd.B H p.1 p.2
  bt : ∀ a q, wd.B a ≠ some (.tbl q)
section
variable {K : PySem.W.Frag} {wd : Wd} {F H : Hp} {cs : Cs}
/-- less is known of the cells -/
theorem Rl.less {cs' : Cs} (R : Rl K wd F cs H) (h : ∀ n o, cs' n = some o → cs n = some o) : Rl K wd F cs' H :=
  ⟨R.b, R.f, R.bf, R.inj, fun n o e => R.cell n o (h n o e), R.ran, R.top, R.rf, R.fe, R.tab, R.bt⟩
/-- a table is no known object -/
theorem Rl.notbl (R : Rl K wd F cs H) {P : Addr} {ps : Array Value} (h : H P = some (.tbl ps)) {a : Addr} {o : HO} (e : H a = some o) (n : ∀ q, o ≠ .tbl q) : a ≠ P := fun z => by
  rw [z, h] at e
  exact n ps (Option.some.inj e).symm
theorem Rl.tabNew (R : Rl K wd F cs H) {p : Addr} (hp : H p = none) {o : HO} {B' : Hp} (b : Ex wd.B B') : ∀ q ∈ tabsOf K, TabB' B' (upd H p o) q.1 q.2 := fun q hq => by
  obtain ⟨ps, h1, h2, h3⟩ := R.tab q hq
  refine ⟨ps, by rw [upd_ne (ne_of_none h1 hp)]; exact h1, h2, fun pos cv e => ?_⟩
  obtain ⟨c, e1, e2⟩ := h3 pos cv e
  exact ⟨c, e1, b _ _ e2⟩
theorem Rl.bnone (R : Rl K wd F cs H) {p : Addr} (h : H p = none) : wd.B p = none := Evl.fresh_back R.b h
/-- a new known object -/
theorem Rl.btNew (R : Rl K wd F cs H) {p : Addr} {o : HO} (ho : ∀ q, o ≠ .tbl q) : ∀ a q, upd wd.B p o a ≠ some (.tbl q) := fun a q e => by
  by_cases h : a = p
  · subst h
    rw [upd_same] at e
    exact ho q (Option.some.inj e)
  · rw [upd_ne h] at e
    exact R.bt a q e
theorem Rl.new (R : Rl K wd F cs H) {p : Addr} (hp : H p = none) (o : HO) (ho : ∀ q, o ≠ .tbl q := by (intro _ z; cases z)) : Rl K ⟨upd wd.B p o, wd.r, wd.k⟩ F cs (upd H p o) ∧ wd.le ⟨upd wd.B p o, wd.r, wd.k⟩ := by
  have bn := R.bnone hp
  have fn := Evl.fresh_back R.f hp
  have le : wd.le ⟨upd wd.B p o, wd.r, wd.k⟩ := ⟨Ex.new bn, fun _ _ h => h⟩
  refine ⟨⟨fun a u e => ?_, fun a u e => ?_, fun a u e => ?_, R.inj, fun n u e => ?_, fun n a e => ?_, R.top, R.rf, R.fe, R.tabNew hp le.B, R.btNew ho⟩, le⟩
  · have e : upd wd.B p o a = some u := e
    by_cases h : a = p
    · subst h
      rw [upd_same] at e ⊢
      exact e
    · rw [upd_ne h] at e ⊢
      exact R.b a u e
  · rw [upd_ne (ne_of_none e fn)]
    exact R.f a u e
  · have e : upd wd.B p o a = some u := e
    by_cases h : a = p
    · subst h
      exact fn
    · rw [upd_ne h] at e
      exact R.bf a u e
  · obtain ⟨a, v, e1, e2, e3, e4, e5⟩ := R.cell n u e
    have ne : a ≠ p := ne_of_none e4 hp
    exact ⟨a, v, e1, (upd_ne ne).trans e2, e3, (upd_ne ne).trans e4, e5.mono le⟩
  · obtain ⟨u, hu, hn⟩ := R.ran n a e
    exact ⟨u, by rw [upd_ne (ne_of_none hu hp)]; exact hu, hn⟩
/-- a new cell: its number is free -/
theorem Rl.cellNew (R : Rl K wd F cs H) {p : Addr} (hp : H p = none) {o : Ob} {u : HO} (h : RpO K wd o u) : ∃ n wd', cs n = none ∧ wd.le wd' ∧ wd'.r n = some p ∧ Rl K wd' F (put cs n o) (upd H p u) := by
  have bn := R.bnone hp
  have fn := Evl.fresh_back R.f hp
  have rk : wd.r wd.k = none := R.top wd.k (Nat.le_refl _)
  have nr : ∀ m b, wd.r m = some b → b ≠ p := fun m b e => by
    obtain ⟨w, hw, _⟩ := R.ran m b e
    exact ne_of_none hw hp
  have le : wd.le ⟨wd.B, fun m => if m = wd.k then some p else wd.r m, wd.k + 1⟩ := ⟨Ex.refl _, fun m b e => by
    show (if m = wd.k then some p else wd.r m) = some b
    by_cases hm : m = wd.k
    · rw [hm, rk] at e
      cases e
    · rw [if_neg hm]
      exact e⟩
  have ck : cs wd.k = none := by
    cases q : cs wd.k with
    | none => rfl
    | some o =>
      obtain ⟨a, v, e1, _⟩ := R.cell _ _ q
      rw [rk] at e1
      cases e1
  refine ⟨wd.k, ⟨wd.B, fun m => if m = wd.k then some p else wd.r m, wd.k + 1⟩, ck, le, if_pos rfl, fun b w e => ?_, fun b w e => ?_, R.bf, fun n m a e1 e2 => ?_, fun m w e => ?_, fun m b e => ?_, fun m hm => ?_, fun m b e => ?_, R.fe, R.tabNew hp le.B, R.bt⟩
  · rw [upd_ne (ne_of_none e bn)]
    exact R.b b w e
  · rw [upd_ne (ne_of_none e fn)]
    exact R.f b w e
  · have e1 : (if n = wd.k then some p else wd.r n) = some a := e1
    have e2 : (if m = wd.k then some p else wd.r m) = some a := e2
    by_cases hn : n = wd.k
    · by_cases hm : m = wd.k
      · rw [hn, hm]
      · rw [if_pos hn] at e1
        rw [if_neg hm] at e2
        exact absurd (Option.some.inj e1).symm (nr m a e2)
    · by_cases hm : m = wd.k
      · rw [if_pos hm] at e2
        rw [if_neg hn] at e1
        exact absurd (Option.some.inj e2).symm (nr n a e1)
      · rw [if_neg hn] at e1
        rw [if_neg hm] at e2
        exact R.inj n m a e1 e2
  · by_cases hm : m = wd.k
    · subst hm
      have ew : o = w := by
        unfold put at e
        rw [if_pos rfl] at e
        exact Option.some.inj e
      subst ew
      exact ⟨p, u, if_pos rfl, bn, fn, upd_same, h.mono le⟩
    · unfold put at e
      rw [if_neg hm] at e
      obtain ⟨b, x, f1, f2, f3, f4, f5⟩ := R.cell m w e
      exact ⟨b, x, (if_neg hm).trans f1, f2, f3, (upd_ne (nr m b f1)).trans f4, f5.mono le⟩
  · have e : (if m = wd.k then some p else wd.r m) = some b := e
    by_cases hm : m = wd.k
    · rw [if_pos hm] at e
      have eb := Option.some.inj e
      subst eb
      exact ⟨u, upd_same, h.notbl⟩
    · rw [if_neg hm] at e
      obtain ⟨w, hw, hn⟩ := R.ran m b e
      exact ⟨w, by rw [upd_ne (nr m b e)]; exact hw, hn⟩
  · have hm : wd.k + 1 ≤ m := hm
    show (if m = wd.k then some p else wd.r m) = none
    rw [if_neg (by omega)]
    exact R.top m (by omega)
  · have e : (if m = wd.k then some p else wd.r m) = some b := e
    by_cases hm : m = wd.k
    · rw [if_pos hm] at e
      have eb := Option.some.inj e
      subst eb
      exact fn
    · rw [if_neg hm] at e
      exact R.rf m b e
/-- a cell is written -/
theorem Rl.write (R : Rl K wd F cs H) {n : Nat} {a : Addr} {o' : Ob} {u : HO} (hn : ∃ o, cs n = some o) (ha : wd.r n = some a) (h : RpO K wd o' u) : Rl K wd F (put cs n o') (upd H a u) := by
  obtain ⟨o, hn⟩ := hn
  obtain ⟨a', v, e1, e2, e3, e4, e5⟩ := R.cell n o hn
  have ea : a' = a := Option.some.inj (e1.symm.trans ha)
  subst ea
  refine ⟨fun b w e => ?_, fun b w e => ?_, R.bf, R.inj, fun m w e => ?_, fun m b e => ?_, R.top, R.rf, R.fe, fun p hp => ?_, R.bt⟩
  · rw [upd_ne (ne_of_none e e2)]
    exact R.b b w e
  · rw [upd_ne (ne_of_none e e3)]
    exact R.f b w e
  · by_cases hm : m = n
    · subst hm
      have ew : o' = w := by
        unfold put at e
        rw [if_pos rfl] at e
        exact Option.some.inj e
      subst ew
      exact ⟨a', u, e1, e2, e3, upd_same, h⟩
    · unfold put at e
      rw [if_neg hm] at e
      obtain ⟨b, x, f1, f2, f3, f4, f5⟩ := R.cell m w e
      have ne : b ≠ a' := fun z => hm (R.inj m n a' (by rw [← z]; exact f1) e1)
      exact ⟨b, x, f1, f2, f3, by rw [upd_ne ne]; exact f4, f5⟩
  · by_cases h2 : b = a'
    · subst h2
      exact ⟨u, upd_same, h.notbl⟩
    · obtain ⟨w, hw, hn⟩ := R.ran m b e
      exact ⟨w, by rw [upd_ne h2]; exact hw, hn⟩
  · obtain ⟨ps, h1, h2, h3⟩ := R.tab p hp
    have ne : a' ≠ p.1 := R.notbl h1 e4 (e5.notbl)
    exact ⟨ps, by rw [upd_ne (Ne.symm ne)]; exact h1, h2, h3⟩
/-- a cell's list becomes known: it is written no more -/
theorem Rl.freeze (R : Rl K wd F cs H) {n : Nat} {ds : List D} (hn : cs n = some (.lst ds)) : ∃ wd' a, wd.le wd' ∧ wd.r n = some a ∧ Rl K wd' F (del cs n) H ∧ Rp K wd' (.lst ds) (.ref a) := by
  obtain ⟨a, u, e1, e2, e3, e4, xs, e5, e6⟩ := R.cell n _ hn
  subst e5
  have le : wd.le ⟨upd wd.B a (.lst xs), wd.r, wd.k⟩ := ⟨Ex.new e2, fun _ _ h => h⟩
  refine ⟨⟨upd wd.B a (.lst xs), wd.r, wd.k⟩, a, le, e1, ⟨fun b w e => ?_, R.f, fun b w e => ?_, R.inj, fun m w e => ?_, R.ran, R.top, R.rf, R.fe, fun p hp => ?_, R.btNew (fun q z => by cases z)⟩, ⟨a, xs, rfl, upd_same, RpL.mono le _ _ e6⟩⟩
  · have e : upd wd.B a (.lst xs) b = some w := e
    by_cases h : b = a
    · subst h
      rw [upd_same] at e
      rw [← e]
      exact e4
    · rw [upd_ne h] at e
      exact R.b b w e
  · have e : upd wd.B a (.lst xs) b = some w := e
    by_cases h : b = a
    · subst h
      exact e3
    · rw [upd_ne h] at e
      exact R.bf b w e
  · unfold del at e
    by_cases hm : m = n
    · rw [if_pos hm] at e
      cases e
    · rw [if_neg hm] at e
      obtain ⟨b, x, f1, f2, f3, f4, f5⟩ := R.cell m w e
      have ne : b ≠ a := fun z => hm (R.inj m n a (by rw [← z]; exact f1) e1)
      exact ⟨b, x, f1, (upd_ne ne).trans f2, f3, f4, f5.mono le⟩
  · obtain ⟨ps, h1, h2, h3⟩ := R.tab p hp
    exact ⟨ps, h1, h2, fun pos cv e => let ⟨c, e1, e2⟩ := h3 pos cv e; ⟨c, e1, le.B _ _ e2⟩⟩
/-- the list of a tree or a cell -/
theorem Rl.getL (R : Rl K wd F cs H) {d : D} {v : V} {xs : List D} (r : Rp K wd d v) (h : getL d cs = some xs) : ∃ a vs, v = .ref a ∧ H a = some (.lst vs) ∧ RpL K wd xs vs := by
  cases d with
  | lst ds =>
    obtain ⟨a, vs, e, s, q⟩ := r
    have e2 : ds = xs := Option.some.inj h
    subst e2
    exact ⟨a, vs, e, R.b a _ s, q⟩
  | ref n =>
    obtain ⟨a, e1, e2⟩ := r
    have h : (match cs n with
      | some (.lst xs) => some xs
      | _ => none) = some xs := h
    cases hc : cs n with
    | none =>
      rw [hc] at h
      cases h
    | some o =>
      rw [hc] at h
      cases o with
      | lst ds =>
        have e3 : ds = xs := Option.some.inj h
        subst e3
        obtain ⟨a', u, f1, f2, f3, f4, ws, f5, f6⟩ := R.cell n _ hc
        have ea : a' = a := Option.some.inj (f1.symm.trans e1)
        subst ea f5
        exact ⟨a', ws, e2, f4, f6⟩
      | dic _ _ => cases h
      | ins _ _ => cases h
      | drw => cases h
      | set _ _ _ _ => cases h
      | dit _ => cases h
  | non => cases h
  | bl _ => cases h
  | int _ => cases h
  | str _ => cases h
  | tup _ => cases h
  | dic _ _ => cases h
  | scr => cases h
  | clo _ _ _ => cases h
theorem Rl.getQ (R : Rl K wd F cs H) {d : D} {v : V} {xs : List D} (r : Rp K wd d v) (h : getQ d cs = some xs) : ∃ a vs, v = .ref a ∧ (H a = some (.lst vs) ∨ SqT K H a vs) ∧ RpL K wd xs vs := by
  cases d with
  | tup ds =>
    obtain ⟨a, vs, e, s, q⟩ := r
    have e2 : ds = xs := Option.some.inj h
    subst e2
    exact ⟨a, vs, e, .inr (SqT.of (R.b a _ s)), q⟩
  | lst ds =>
    obtain ⟨a, vs, e, s, q⟩ := R.getL (d := .lst ds) r h
    exact ⟨a, vs, e, .inl s, q⟩
  | ref n =>
    obtain ⟨a, vs, e, s, q⟩ := R.getL (d := .ref n) r h
    exact ⟨a, vs, e, .inl s, q⟩
  | non => cases h
  | bl _ => cases h
  | int _ => cases h
  | str _ => cases h
  | dic _ _ => cases h
  | scr => cases h
  | clo _ _ _ => cases h
end
end G

/-! GJud: the judgements: a piece of Python and its core term. -/
namespace G
open PySem PySem.Spec L2
open Evl (Ex)

/-- slots -/
structure RS (K : PySem.W.Frag) (wd : Wd) (τ : Sl) (σ : St) : Prop where
  len : τ.length = σ.length
  at_ : ∀ i d, getV τ i = some d → ∃ v, σ[i]? = some (some v) ∧ Rp K wd d v
theorem getV_eq : ∀ (τ : Sl) (i : Nat), getV τ i = (τ[i]?).join
  | [], i => by simp [getV]
  | x :: r, 0 => by simp [getV]
  | x :: r, i + 1 => by
    show getV r i = _
    rw [getV_eq r i]
    simp
theorem RS.mono {K : PySem.W.Frag} {wd wd' : Wd} {τ : Sl} {σ : St} (h : RS K wd τ σ) (l : wd.le wd') : RS K wd' τ σ :=
  ⟨h.len, fun i d e => let ⟨v, a, b⟩ := h.at_ i d e; ⟨v, a, b.mono l⟩⟩
theorem RS.set {K : PySem.W.Frag} {wd : Wd} {τ : Sl} {σ : St} (h : RS K wd τ σ) {d : D} {v : V} (i : Nat) (r : Rp K wd d v) : RS K wd (τ.set i (some d)) (σ.set i (some v)) := by
  refine ⟨by simp [h.len], fun j e q => ?_⟩
  rw [getV_eq] at q
  by_cases hj : j = i
  · subst hj
    by_cases hl : j < τ.length
    · rw [List.getElem?_set_self hl] at q
      have : d = e := Option.some.inj q
      subst this
      exact ⟨v, List.getElem?_set_self (by rw [← h.len]; exact hl), r⟩
    · rw [List.getElem?_eq_none (by simp; omega)] at q
      cases q
  · rw [List.getElem?_set_ne (Ne.symm hj), ← getV_eq] at q
    rw [List.getElem?_set_ne (Ne.symm hj)]
    exact h.at_ j e q
/-- the same tree, told otherwise -/
theorem RS.swap {K : PySem.W.Frag} {wd : Wd} {τ : Sl} {σ : St} (h : RS K wd τ σ) {d : D} {v : V} (i : Nat) (e : σ[i]? = some (some v)) (r : Rp K wd d v) : RS K wd (τ.set i (some d)) σ := by
  have q := h.set i r
  have z : σ.set i (some v) = σ := by
    obtain ⟨hl, hv⟩ := List.getElem?_eq_some_iff.mp e
    apply List.ext_getElem?
    intro j
    by_cases hj : j = i
    · subst hj
      rw [List.getElem?_set_self hl, e]
    · rw [List.getElem?_set_ne (Ne.symm hj)]
  rw [z] at q
  exact q
/-- forgetting -/
theorem RS.drop {K : PySem.W.Frag} {wd : Wd} {τ τ' : Sl} {σ : St} (h : RS K wd τ σ) (hl : τ'.length = τ.length) (w : ∀ i d, getV τ' i = some d → getV τ i = some d) : RS K wd τ' σ :=
  ⟨hl.trans h.len, fun i d e => h.at_ i d (w i d e)⟩

/-- an error as it lies -/
def RpX (K : PySem.W.Frag) (mg : Str → Option Value) (wd : Wd) (x : Er) (cls : Value) (dd : Option Addr) : Prop :=
  ∃ C a vs, mg x.tag = some (.ref C) ∧ cls = .ref C ∧ dd = some a ∧ wd.B a = some (.xd vs) ∧ vs.map (·.1) = x.fs.map (·.1) ∧ RpL K wd (x.fs.map (·.2)) (vs.map (·.2))
/-- the errors' end: what X asks is what W asks -/
def XOk (X : Cx) (W : WX) (wd : Wd) (F : Hp) (σ : St) (P : KX) : Prop :=
  ∀ wd' x cs cls dd H, wd.le wd' → Rl X.K wd' F cs H → RpX X.K X.mg wd' x cls dd → P x cs → W cls dd σ H
theorem XOk.mono {X : Cx} {W : WX} {wd wd' : Wd} {F : Hp} {σ : St} {P : KX} (h : XOk X W wd F σ P) (l : wd.le wd') : XOk X W wd' F σ P :=
  fun wd2 x cs cls dd H l2 => h wd2 x cs cls dd H (l.trans l2)
def QOk (K : PySem.W.Frag) (wd : Wd) (F : Hp) (P : KD) (Q : VK) : Prop :=
  ∀ wd' d cs v H, wd.le wd' → Rl K wd' F cs H → Rp K wd' d v → P d cs → Q v H
theorem QOk.mono {K : PySem.W.Frag} {wd wd' : Wd} {F : Hp} {P : KD} {Q : VK} (h : QOk K wd F P Q) (l : wd.le wd') : QOk K wd' F P Q :=
  fun wd2 d cs v H l2 => h wd2 d cs v H (l.trans l2)

def RefE (X : Cx) (W : WX) (te : TE) (c : E) : Prop := ∀ wd F τ cs σ H (P : KD) (PX : KX) (Q : VK), Rl X.K wd F cs H → RS X.K wd τ σ → wpE c τ cs P PX → QOk X.K wd F P Q → XOk X W wd F σ PX → te σ H Q
def RefT (X : Cx) (W : WX) (tt : TT) (c : E) : Prop := ∀ wd F τ cs σ H (P : KD) (PX : KX) (Q : Bool → Hp → Prop), Rl X.K wd F cs H → RS X.K wd τ σ → wpE c τ cs P PX →
  (∀ wd' d cs' H', wd.le wd' → Rl X.K wd' F cs' H' → P d cs' → ∃ k, d = .bl k ∧ Q k H') → XOk X W wd F σ PX → tt σ H Q
def RefA (X : Cx) (W : WX) (ta : TA) (c : Es) : Prop := ∀ wd F τ cs σ H (P : List D → Cs → Prop) (PX : KX) (Q : List V → Hp → Prop), Rl X.K wd F cs H → RS X.K wd τ σ → wpEs c τ cs P PX →
  (∀ wd' ds cs' vs H', wd.le wd' → Rl X.K wd' F cs' H' → RpL X.K wd' ds vs → P ds cs' → Q vs H') → XOk X W wd F σ PX → ta σ H Q
/-- the ends of a statement -/
structure EOk (X : Cx) (W : WX) (wd : Wd) (F : Hp) (P : G.Ends) (Q : L2.Ends) : Prop where
  nx : ∀ wd' τ cs σ H, wd.le wd' → Rl X.K wd' F cs H → RS X.K wd' τ σ → P.nx τ cs → Q.nx σ H
  bk : ∀ wd' τ cs σ H, wd.le wd' → Rl X.K wd' F cs H → RS X.K wd' τ σ → P.bk τ cs → Q.bk σ H
  ct : ∀ wd' τ cs σ H, wd.le wd' → Rl X.K wd' F cs H → RS X.K wd' τ σ → P.ct τ cs → Q.ct σ H
  rt : ∀ wd' d cs v H, wd.le wd' → Rl X.K wd' F cs H → Rp X.K wd' d v → P.rt d cs → Q.rt v H
  ex : ∀ wd' x τ cs σ cls dd H, wd.le wd' → Rl X.K wd' F cs H → RS X.K wd' τ σ → RpX X.K X.mg wd' x cls dd → P.ex x τ cs → W cls dd σ H
theorem EOk.mono {X : Cx} {W : WX} {wd wd' : Wd} {F : Hp} {P : G.Ends} {Q : L2.Ends} (h : EOk X W wd F P Q) (l : wd.le wd') : EOk X W wd' F P Q :=
  ⟨fun a τ cs σ H k => h.nx a τ cs σ H (l.trans k), fun a τ cs σ H k => h.bk a τ cs σ H (l.trans k), fun a τ cs σ H k => h.ct a τ cs σ H (l.trans k), fun a d cs v H k => h.rt a d cs v H (l.trans k), fun a x τ cs σ cls dd H k => h.ex a x τ cs σ cls dd H (l.trans k)⟩
theorem EOk.xok {X : Cx} {W : WX} {wd : Wd} {F : Hp} {P : G.Ends} {Q : L2.Ends} (h : EOk X W wd F P Q) {τ : Sl} {σ : St} (r : RS X.K wd τ σ) : XOk X W wd F σ (fun x cs => P.ex x τ cs) :=
  fun wd' x cs cls dd H l R rx p => h.ex wd' x τ cs σ cls dd H l R (r.mono l) rx p
def RefS (X : Cx) (W : WX) (ts : TS) (c : S) : Prop := ∀ wd F τ cs σ H (P : G.Ends) (Q : L2.Ends), Rl X.K wd F cs H → RS X.K wd τ σ → wpS c τ cs P → EOk X W wd F P Q → ts Q σ H

def JE (X : Cx) (W : WX) (e : Expr) (c : E) : Prop := ∃ te, PE X e te ∧ RefE X W te c
def JT (X : Cx) (W : WX) (e : Expr) (c : E) : Prop := ∃ tt, PT X e tt ∧ RefT X W tt c
def JA (X : Cx) (W : WX) (es : List Expr) (c : Es) : Prop := ∃ ta, PA X es ta ∧ RefA X W ta c
def JS (X : Cx) (W : WX) (st : Stmt) (c : S) : Prop := ∃ ts, PS X st ts ∧ RefS X W ts c
def JSs (X : Cx) (W : WX) (st : List Stmt) (c : S) : Prop := ∃ ts, PSs X st ts ∧ RefS X W ts c

section
variable {X : Cx} {W : WX} {pos : Pos}

/-! ### names, constants -/
theorem j_v (i : Nat) {x : Str} (hN : X.N[i]? = some x := by rfl) (hv : Vis X.env.scope x := by first | exact Or.inl rfl | exact Or.inr (Or.inl rfl) | exact Or.inr (Or.inr rfl)) (hd : (x == ("__debug__" : Str)) = false := by decide)
    (hcd : (x == ("__classdict__" : Str)) = false := by decide) : JE X W (.Name x pos) (.v i) := by
  refine ⟨_, pe_var (i := i) hN hv hd hcd, fun wd F τ cs σ H P PX Q R r h q x => ?_⟩
  have h : (match getV τ i with
    | some d => P d cs
    | none => False) := h
  cases e : getV τ i with
  | none =>
    rw [e] at h
    exact h.elim
  | some d =>
    rw [e] at h
    obtain ⟨v, a, b⟩ := r.at_ i d e
    exact ⟨v, a, q wd d cs v H (Wd.le.refl _) R b h⟩
theorem j_int {i : Int} {j} : JE X W (.Constant (.int i) j pos) (.c (.int i)) := ⟨_, pe_int, fun wd F τ cs σ H P PX Q R r h q x => q wd (.int i) cs _ H (Wd.le.refl _) R rfl h⟩
theorem j_bl {b : Bool} {j} : JE X W (.Constant (.bool b) j pos) (.c (.bl b)) := ⟨_, pe_bl, fun wd F τ cs σ H P PX Q R r h q x => q wd (.bl b) cs _ H (Wd.le.refl _) R rfl h⟩
theorem j_non {j} : JE X W (.Constant .none j pos) (.c .non) := ⟨_, pe_non, fun wd F τ cs σ H P PX Q R r h q x => q wd .non cs _ H (Wd.le.refl _) R rfl h⟩
theorem j_str {s : Str} {j} : JE X W (.Constant (.str s) j pos) (.c (.str s)) := ⟨_, pe_str, fun wd F τ cs σ H P PX Q R r h q x => q wd (.str s) cs _ H (Wd.le.refl _) R rfl h⟩
/-- a module's constant -/
theorem j_glob {x : Str} {d : D} {v : V} {u : Value} (hg : Gl X x) (hm : X.mg x = some u) (r : RelV v u) (hr : ∀ wd, Rp X.K wd d v) (hd : (x == ("__debug__" : Str)) = false := by decide) : JE X W (.Name x pos) (.c d) :=
  ⟨_, pe_glob hg hm r hd, fun wd F τ cs σ H P PX Q R _ h q x => q wd _ cs _ H (Wd.le.refl _) R (hr wd) h⟩

/-! ### arguments -/
theorem ja_nil : JA X W [] .nil := ⟨_, pa_nil, fun wd F τ cs σ H P PX Q R r h q x => q wd [] cs [] H (Wd.le.refl _) R rfl h⟩
theorem ja_cons {e : Expr} {es : List Expr} {c : E} {cs : Es} (h1 : JE X W e c) (h2 : JA X W es cs) (hs : starEach (e :: es) X.env = (false, eval e X.env) :: starEach es X.env := by rfl) : JA X W (e :: es) (.cons c cs) := by
  obtain ⟨te, p1, r1⟩ := h1
  obtain ⟨ta, p2, r2⟩ := h2
  refine ⟨_, pa_cons p1 p2 hs, fun wd F τ cs σ H P PX Q R r h q x => ?_⟩
  refine r1 wd F τ cs σ H _ PX _ R r h (fun wd1 d c1 v H1 l1 R1 rv h1 => ?_) x
  refine r2 wd1 F τ c1 σ H1 _ PX _ R1 (r.mono l1) h1 (fun wd2 ds c2 vs H2 l2 R2 rvs h2 => ?_) (x.mono l1)
  exact q wd2 (d :: ds) c2 (v :: vs) H2 (l1.trans l2) R2 ⟨v, vs, rfl, rv.mono l2, rvs⟩ h2

/-! ### operations by values -/
/-- what a rule on values asks is what the core's asks -/
def Ref2 (K : PySem.W.Frag) (r : R2) (sp : Spec) : Prop := ∀ wd F cs H x y v w (P : KD) (PX : KX) (Q : VK), Rl K wd F cs H → Rp K wd x v → Rp K wd y w → sp [x, y] cs P PX → QOk K wd F P Q → r v w H Q
def RefN (K : PySem.W.Frag) (r : List V → Hp → VK → Prop) (sp : Spec) : Prop := ∀ wd F cs H ds vs (P : KD) (PX : KX) (Q : VK), Rl K wd F cs H → RpL K wd ds vs → sp ds cs P PX → QOk K wd F P Q → r vs H Q
def Ref1 (K : PySem.W.Frag) (r : V → Hp → VK → Prop) (sp : Spec) : Prop := ∀ wd F cs H x v (P : KD) (PX : KX) (Q : VK), Rl K wd F cs H → Rp K wd x v → sp [x] cs P PX → QOk K wd F P Q → r v H Q
variable {a b e : Expr} {ca cb cc : E} {sp sp' : Spec}
theorem ref_bin {r : R2} {ta tb : TE} (hr : Ref2 X.K r sp) (ha : RefE X W ta ca) (hb : RefE X W tb cb) : RefE X W (tOp r ta tb) (.app sp (.cons ca (.cons cb .nil))) := by
  intro wd F τ cs σ H P PX Q R rs h q x
  refine ha wd F τ cs σ H _ PX _ R rs h (fun wd1 d1 c1 v1 H1 l1 R1 rv1 h1 => ?_) x
  refine hb wd1 F τ c1 σ H1 _ PX _ R1 (rs.mono l1) h1 (fun wd2 d2 c2 v2 H2 l2 R2 rv2 h2 => ?_) (x.mono l1)
  exact hr wd2 F c2 H2 d1 d2 v1 v2 P PX Q R2 (rv1.mono l2) rv2 h2 (q.mono (l1.trans l2))
theorem j_op {op : Operator} {r : R2} (ho : OpR X (binaryOp op) r) (hr : Ref2 X.K r sp) (ha : JE X W a ca) (hb : JE X W b cb) : JE X W (.BinOp a op b pos) (.app sp (.cons ca (.cons cb .nil))) := by
  obtain ⟨ta, p1, r1⟩ := ha
  obtain ⟨tb, p2, r2⟩ := hb
  exact ⟨_, pe_op ho p1 p2, ref_bin hr r1 r2⟩
theorem j_un {op : UnaryOp} {r : V → Hp → VK → Prop} (ho : UnR X (unaryOp op) r) (hr : Ref1 X.K r sp) (ha : JE X W a ca) : JE X W (.UnaryOp op a pos) (.app sp (.cons ca .nil)) := by
  obtain ⟨ta, p1, r1⟩ := ha
  refine ⟨_, pe_un ho p1, fun wd F τ cs σ H P PX Q R rs h q x => ?_⟩
  refine r1 wd F τ cs σ H _ PX _ R rs h (fun wd1 d1 c1 v1 H1 l1 R1 rv1 h1 => ?_) x
  exact hr wd1 F c1 H1 d1 v1 P PX Q R1 rv1 h1 (q.mono l1)
theorem j_cmp {op : CmpOp} {r : R2} (ho : OpR X (compareOp op) r) (hr : Ref2 X.K r sp) (ha : JE X W a ca) (hb : JE X W b cb) (hm : behindInMarks op b = false) : JE X W (.Compare a [op] [b] pos) (.app sp (.cons ca (.cons cb .nil))) := by
  obtain ⟨ta, p1, r1⟩ := ha
  obtain ⟨tb, p2, r2⟩ := hb
  exact ⟨_, pe_cmpR ho p1 p2 hm, ref_bin hr r1 r2⟩
/-- a value that is a bool, as a test -/
theorem ref_test {te : TE} {c : E} (h : RefE X W te c) : RefT X W (tTest te) c := by
  intro wd F τ cs σ H P PX Q R rs h1 q x
  refine h wd F τ cs σ H _ PX _ R rs h1 (fun wd1 d1 c1 v1 H1 l1 R1 rv1 h1 => ?_) x
  obtain ⟨k, e, hp⟩ := q wd1 d1 c1 H1 l1 R1 h1
  subst e
  exact ⟨k, rv1, hp⟩
theorem jt_cmp {op : CmpOp} {r : R2} (ho : OpR X (compareOp op) r) (hr : Ref2 X.K r sp) (ha : JE X W a ca) (hb : JE X W b cb) (hm : behindInMarks op b = false) : JT X W (.Compare a [op] [b] pos) (.app sp (.cons ca (.cons cb .nil))) := by
  obtain ⟨ta, p1, r1⟩ := ha
  obtain ⟨tb, p2, r2⟩ := hb
  exact ⟨_, pt_cmpR ho p1 p2 hm, ref_test (ref_bin hr r1 r2)⟩
end
end G

/-! GRules: operators, tests, displays, subscripts, calls of built-ins. -/
namespace G
open PySem PySem.Spec L2
open Evl (Ex)

section
variable {K : PySem.W.Frag}
theorem Rp.int {wd : Wd} {i : Int} {v : V} (h : Rp K wd (.int i) v) : v = .int i := h
theorem sInt_inv {C : Int → Int → Prop} {f : Int → Int → D} {x y : D} {cs : Cs} {Q : KD} {PX : KX} (h : sInt C f [x, y] cs Q PX) : ∃ i j, x = .int i ∧ y = .int j ∧ C i j ∧ Q (f i j) cs := by
  cases x with
  | int i =>
    cases y with
    | int j => exact ⟨i, j, rfl, rfl, h.1, h.2⟩
    | _ => exact h.elim
  | _ => exact h.elim
theorem ref_int {C C' : Int → Int → Prop} {f : Int → Int → D} {g : Int → Int → V} (hC : ∀ i j, C i j → C' i j) (h : ∀ wd i j, Rp K wd (f i j) (g i j)) : Ref2 K (rI C' g) (sInt C f) := by
  intro wd F cs H x y v w P PX Q R rx ry hs q
  obtain ⟨i, j, e1, e2, hc, hp⟩ := sInt_inv hs
  subst e1 e2
  exact ⟨i, j, rx, ry, hC i j hc, q wd _ cs _ H (Wd.le.refl _) R (h wd i j) hp⟩
theorem ref_int0 {f : Int → Int → D} {g : Int → Int → V} (h : ∀ wd i j, Rp K wd (f i j) (g i j)) : Ref2 K (rI0 g) (sInt CTrue f) := by
  intro wd F cs H x y v w P PX Q R rx ry hs q
  obtain ⟨i, j, e1, e2, hc, hp⟩ := sInt_inv hs
  subst e1 e2
  exact ⟨i, j, rx, ry, q wd _ cs _ H (Wd.le.refl _) R (h wd i j) hp⟩
end
section
variable {X : Cx} {W : WX} {pos : Pos} {a b c e : Expr} {ca cb cc ce : E}

/-! ### arithmetic -/
def CMulA (i j : Int) : Prop := CMul i j ∨ CMulW i j
theorem op_mulA : OpR X (binaryOp .Mult) (rI CMulA fun i j => .int (i * j)) := by
  intro pins s σ H x y v u Q I r1 r2 h
  obtain ⟨i, j, e1, e2, hc, q⟩ := h
  rcases hc with hc | hc
  · exact op_mul pins s σ H x y v u Q I r1 r2 ⟨i, j, e1, e2, hc, q⟩
  · exact op_mulW pins s σ H x y v u Q I r1 r2 ⟨i, j, e1, e2, hc, q⟩
theorem mulA_of {i j : Int} (h : mulOk i j) : CMulA i j := by
  unfold mulOk at h
  unfold CMulA CMul CMulW
  rcases h with h | h | h
  · exact .inl (.inl h)
  · exact .inl (.inr h)
  · exact .inr h
theorem j_sub (ha : JE X W a ca) (hb : JE X W b cb) : JE X W (.BinOp a .Sub b pos) (.app sSub (.cons ca (.cons cb .nil))) := j_op op_sub (ref_int0 fun _ _ _ => rfl) ha hb
theorem j_mul (ha : JE X W a ca) (hb : JE X W b cb) : JE X W (.BinOp a .Mult b pos) (.app sMul (.cons ca (.cons cb .nil))) := j_op op_mulA (ref_int (fun _ _ h => mulA_of h) fun _ _ _ => rfl) ha hb
theorem j_div (ha : JE X W a ca) (hb : JE X W b cb) : JE X W (.BinOp a .FloorDiv b pos) (.app sDiv (.cons ca (.cons cb .nil))) := j_op op_fdivW (ref_int (C' := CDivW) (fun _ _ h => h) fun _ _ _ => rfl) ha hb
theorem j_mod (ha : JE X W a ca) (hb : JE X W b cb) : JE X W (.BinOp a .Mod b pos) (.app sMod (.cons ca (.cons cb .nil))) := j_op op_mod (ref_int (fun _ _ h => h) fun _ _ _ => rfl) ha hb
theorem j_pow (ha : JE X W a ca) (hb : JE X W b cb) : JE X W (.BinOp a .Pow b pos) (.app sPow (.cons ca (.cons cb .nil))) := j_op op_pow (ref_int (C' := CPow) (fun _ _ h => h) fun _ _ _ => rfl) ha hb
theorem j_neg (ha : JE X W a ca) : JE X W (.UnaryOp .USub a pos) (.app sNeg (.cons ca .nil)) := by
  refine j_un un_neg ?_ ha
  intro wd F cs H x v P PX Q R rx hs q
  cases x with
  | int i => exact ⟨i, rx, q wd (.int (-i)) cs _ H (Wd.le.refl _) R rfl hs⟩
  | _ => exact hs.elim
theorem sizeL : sizeLine = lim := sizeLine_eq
end
end G

namespace G
open PySem PySem.Spec L2
open Evl (Ex)
section
variable {K : PySem.W.Frag} {wd : Wd} {F H : Hp} {cs : Cs}
/-- a new list in H: as a tree -/
theorem Rl.lst (R : Rl K wd F cs H) {p : Addr} (hp : H p = none) {ds : List D} {vs : List V} (r : RpL K wd ds vs) :
    ∃ wd', wd.le wd' ∧ Rl K wd' F cs (upd H p (.lst vs)) ∧ Rp K wd' (.lst ds) (.ref p) := by
  obtain ⟨R', le⟩ := R.new hp (.lst vs)
  exact ⟨_, le, R', p, vs, rfl, upd_same, RpL.mono le _ _ r⟩
theorem Rl.tup (R : Rl K wd F cs H) {p : Addr} (hp : H p = none) {ds : List D} {vs : List V} (r : RpL K wd ds vs) :
    ∃ wd', wd.le wd' ∧ Rl K wd' F cs (upd H p (.tup vs)) ∧ Rp K wd' (.tup ds) (.ref p) := by
  obtain ⟨R', le⟩ := R.new hp (.tup vs)
  exact ⟨_, le, R', p, vs, rfl, upd_same, RpL.mono le _ _ r⟩
/-- .. as a cell -/
theorem Rl.cellL (R : Rl K wd F cs H) {p : Addr} (hp : H p = none) {ds : List D} {vs : List V} (r : RpL K wd ds vs) :
    ∃ n wd', cs n = none ∧ wd.le wd' ∧ Rl K wd' F (put cs n (.lst ds)) (upd H p (.lst vs)) ∧ Rp K wd' (.ref n) (.ref p) := by
  obtain ⟨n, wd', hn, le, hr, R'⟩ := R.cellNew hp (o := .lst ds) ⟨vs, rfl, r⟩
  exact ⟨n, wd', hn, le, R', p, hr, rfl⟩
end
section
variable {X : Cx} {W : WX} {pos : Pos} {a b c e : Expr} {ca cb cc ce : E}
/-! ### + -/
def rAddA (K : PySem.W.Frag) : R2 := fun x y H Q => ((rI0 (fun i j => .int (i + j)) x y H Q ∨ (∃ i j, x = .str i ∧ y = .str j ∧ i.length + j.length ≤ sizeLine ∧ Q (.str (i ++ j)) H)) ∨ rCat x y H Q) ∨ rCatT K x y H Q
theorem op_addA : OpR X (binaryOp .Add) (rAddA X.K) := ((op_add.or op_add_str).or op_cat).or op_catT
theorem ref_add : Ref2 X.K (rAddA X.K) sAdd := by
  intro wd F cs H x y v w P PX Q R rx ry hs q
  have lists : ∀ {x y}, Rp X.K wd x v → Rp X.K wd y w → (match getL x cs, getL y cs with
    | some a, some b => a.length + b.length ≤ lim ∧ P (.lst (a ++ b)) cs
    | _, _ => False) → rCat v w H Q := fun {x y} rx ry h => by
    cases ex : getL x cs with
    | none =>
      rw [ex] at h
      exact h.elim
    | some xs =>
      cases ey : getL y cs with
      | none =>
        rw [ex, ey] at h
        exact h.elim
      | some ys =>
        rw [ex, ey] at h
        obtain ⟨a1, vs, e1, h1, r1⟩ := R.getL rx ex
        obtain ⟨a2, ws, e2, h2, r2⟩ := R.getL ry ey
        refine ⟨a1, a2, vs, ws, e1, e2, h1, h2, by rw [r1.length, r2.length, sizeL]; exact h.1, fun p hp => ?_⟩
        obtain ⟨wd', le, R', rp⟩ := R.lst hp (r1.append r2)
        exact q wd' _ cs _ _ le R' rp h.2
  cases x with
  | int i =>
    cases y with
    | int j => exact .inl (.inl (.inl ⟨i, j, rx, ry, q wd (.int (i + j)) cs _ H (Wd.le.refl _) R rfl hs⟩))
    | _ => exact hs.elim
  | str i =>
    cases y with
    | str j => exact .inl (.inl (.inr ⟨i, j, rx, ry, by rw [sizeL]; exact hs.1, q wd (.str (i ++ j)) cs _ H (Wd.le.refl _) R rfl hs.2⟩))
    | _ => exact hs.elim
  | tup xs =>
    cases y with
    | tup ys =>
      obtain ⟨a1, vs, e1, h1, r1⟩ := rx
      obtain ⟨a2, ws, e2, h2, r2⟩ := ry
      have ne : vs ≠ [] := fun z => hs.1 (List.length_eq_zero_iff.mp (by rw [← r1.length, z]; rfl))
      refine .inr ⟨a1, a2, vs, ws, e1, e2, SqT.of (R.b _ _ h1), SqT.of (R.b _ _ h2), ne, by rw [r1.length, r2.length, sizeL]; exact hs.2.1, fun z => ?_, fun z p hp => ?_⟩
      · have ey : ys = [] := List.length_eq_zero_iff.mp (by rw [← r2.length, z]; rfl)
        have e3 := hs.2.2
        rw [ey, List.append_nil] at e3
        have := q wd (.tup xs) cs v H (Wd.le.refl _) R ⟨a1, vs, e1, h1, r1⟩ e3
        rw [e1] at this
        exact this
      · obtain ⟨wd', le, R', rp⟩ := R.tup hp (r1.append r2)
        exact q wd' _ cs _ _ le R' rp hs.2.2
    | _ => exact hs.elim
  | lst xs => exact .inl (.inr (lists (x := .lst xs) rx ry (by cases y <;> exact hs)))
  | ref n => exact .inl (.inr (lists (x := .ref n) rx ry (by cases y <;> exact hs)))
  | _ => exact absurd hs (by cases y <;> exact fun z => z)
theorem j_add (ha : JE X W a ca) (hb : JE X W b cb) : JE X W (.BinOp a .Add b pos) (.app sAdd (.cons ca (.cons cb .nil))) := j_op op_addA ref_add ha hb

/-! ### comparisons of ints -/
theorem j_lt (ha : JE X W a ca) (hb : JE X W b cb) : JE X W (.Compare a [.Lt] [b] pos) (.app sLt (.cons ca (.cons cb .nil))) := j_cmp op_lt (ref_int0 fun _ _ _ => rfl) ha hb (nomark _)
theorem jt_lt (ha : JE X W a ca) (hb : JE X W b cb) : JT X W (.Compare a [.Lt] [b] pos) (.app sLt (.cons ca (.cons cb .nil))) := jt_cmp op_lt (ref_int0 fun _ _ _ => rfl) ha hb (nomark _)
theorem jt_gt (ha : JE X W a ca) (hb : JE X W b cb) : JT X W (.Compare a [.Gt] [b] pos) (.app sGt (.cons ca (.cons cb .nil))) := jt_cmp op_gt (ref_int0 fun _ _ _ => rfl) ha hb (nomark _)
theorem jt_ge (ha : JE X W a ca) (hb : JE X W b cb) : JT X W (.Compare a [.GtE] [b] pos) (.app sGe (.cons ca (.cons cb .nil))) := jt_cmp op_ge (ref_int0 fun _ _ _ => rfl) ha hb (nomark _)

/-! ### == of data -/
mutual
def toP : D → PyData
  | .non => .none
  | .bl b => .bool b
  | .int i => .int i
  | .str s => .str s
  | .tup xs => .tuple (toPs xs)
  | .lst xs => .list (toPs xs)
  | .dic _ _ => .none
  | .ref _ => .none
  | .scr => .none
  | .clo _ _ _ => .none
def toPs : List D → List PyData
  | [] => []
  | x :: xs => toP x :: toPs xs
end
theorem pur_purs {b : Bool} {k : Nat} {xs : List D} (h : (b && purs k xs) = true) : purs k xs = true := by
  rw [Bool.and_eq_true] at h
  exact h.2
mutual
theorem pur_lay : ∀ (k : Nat) (d : D), pur k d = true → (toP d).canLay0 = true ∧ (toP d).depth ≤ k
  | k, .non, _ => ⟨rfl, Nat.zero_le _⟩
  | k, .bl _, _ => ⟨rfl, Nat.zero_le _⟩
  | k, .int _, _ => ⟨rfl, Nat.zero_le _⟩
  | k, .str s, h => by
    have h : strOk s = true := by cases k <;> exact h
    exact ⟨h, Nat.zero_le _⟩
  | k + 1, .lst xs, h => by
    have h : purs k xs = true := pur_purs h
    obtain ⟨h1, h2⟩ := purs_lay k xs h
    exact ⟨by simpa [toP, PyData.canLay0] using h1, by simp only [toP, PyData.depth]; omega⟩
  | k + 1, .tup xs, h => by
    have h : purs k xs = true := pur_purs h
    obtain ⟨h1, h2⟩ := purs_lay k xs h
    exact ⟨by simpa [toP, PyData.canLay0] using h1, by simp only [toP, PyData.depth]; omega⟩
  | 0, .lst xs, h => by cases h
  | 0, .tup xs, h => by cases h
  | k, .dic _ _, h => by cases k <;> cases h
  | k, .ref _, h => by cases k <;> cases h
  | k, .scr, h => by cases k <;> cases h
  | k, .clo _ _ _, h => by cases k <;> cases h
theorem purs_lay : ∀ (k : Nat) (ds : List D), purs k ds = true → PyData.canLayAll0 (toPs ds) = true ∧ PyData.depthAll (toPs ds) ≤ k
  | k, [], _ => ⟨rfl, Nat.zero_le _⟩
  | k, d :: ds, h => by
    have h : (pur k d && purs k ds) = true := h
    rw [Bool.and_eq_true] at h
    obtain ⟨h1, h2⟩ := pur_lay k d h.1
    obtain ⟨h3, h4⟩ := purs_lay k ds h.2
    exact ⟨by simp [toPs, PyData.canLayAll0, h1, h3], by simp only [toPs, PyData.depthAll]; omega⟩
end
theorem pur_shaped {d : D} (h : pur 64 d = true) : SeqAt.shaped (toP d) = true := by
  obtain ⟨h1, h2⟩ := pur_lay 64 d h
  unfold SeqAt.shaped
  rw [h1, decide_eq_true h2]
  rfl
mutual
theorem eqD_eqv : ∀ (k j : Nat) (x y : D), pur k x = true → pur j y = true → eqD x y = PyData.eqv (toP x) (toP y)
  | k, j, .non, y, _, hy => by cases y <;> first | (cases j <;> cases hy; done) | simp [eqD, toP, PyData.eqv]
  | k, j, .bl a, y, _, hy => by cases y <;> first | (cases j <;> cases hy; done) | simp [eqD, toP, PyData.eqv]
  | k, j, .int a, y, _, hy => by cases y <;> first | (cases j <;> cases hy; done) | simp [eqD, toP, PyData.eqv]
  | k, j, .str a, y, _, hy => by cases y <;> first | (cases j <;> cases hy; done) | simp [eqD, toP, PyData.eqv]
  | k + 1, j, .lst xs, y, hx, hy => by
    have hx : purs k xs = true := pur_purs hx
    cases y with
    | lst ys =>
      cases j with
      | zero => cases hy
      | succ j =>
        have hy : purs j ys = true := pur_purs hy
        simp only [eqD, toP, PyData.eqv]
        exact eqDs_eqv k j xs ys hx hy
    | _ => first | (cases j <;> cases hy; done) | simp [eqD, toP, PyData.eqv]
  | k + 1, j, .tup xs, y, hx, hy => by
    have hx : purs k xs = true := pur_purs hx
    cases y with
    | tup ys =>
      cases j with
      | zero => cases hy
      | succ j =>
        have hy : purs j ys = true := pur_purs hy
        simp only [eqD, toP, PyData.eqv]
        exact eqDs_eqv k j xs ys hx hy
    | _ => first | (cases j <;> cases hy; done) | simp [eqD, toP, PyData.eqv]
  | 0, _, .lst xs, _, h, _ => by cases h
  | 0, _, .tup xs, _, h, _ => by cases h
  | k, _, .dic _ _, _, h, _ => by cases k <;> cases h
  | k, _, .ref _, _, h, _ => by cases k <;> cases h
  | k, _, .scr, _, h, _ => by cases k <;> cases h
  | k, _, .clo _ _ _, _, h, _ => by cases k <;> cases h
theorem eqDs_eqv : ∀ (k j : Nat) (xs ys : List D), purs k xs = true → purs j ys = true → eqDs xs ys = PyData.eqvAll (toPs xs) (toPs ys)
  | k, j, [], [], _, _ => rfl
  | k, j, [], _ :: _, _, _ => rfl
  | k, j, _ :: _, [], _, _ => rfl
  | k, j, x :: xs, y :: ys, hx, hy => by
    have hx : (pur k x && purs k xs) = true := hx
    have hy : (pur j y && purs j ys) = true := hy
    rw [Bool.and_eq_true] at hx hy
    simp only [eqDs, toPs, PyData.eqvAll, eqD_eqv k j x y hx.1 hy.1, eqDs_eqv k j xs ys hx.2 hy.2]
end
mutual
theorem dp_of {K : PySem.W.Frag} {wd : Wd} {H : Hp} (b : Ex wd.B H) : ∀ (k : Nat) (d : D) (v : V), pur k d = true → Rp K wd d v → Dp K H v (toP d)
  | k, .non, v, _, r => by cases (show v = _ from r); exact .non
  | k, .bl x, v, _, r => by cases (show v = _ from r); exact .bl x
  | k, .int x, v, _, r => by cases (show v = _ from r); exact .int x
  | k, .str x, v, _, r => by cases (show v = _ from r); exact .str x
  | k + 1, .lst xs, v, h, r => by
    obtain ⟨a, vs, e, s, q⟩ := r
    subst e
    exact .lst (SqL.of (b a _ s)) (dps_of b k xs vs (pur_purs h) q)
  | k + 1, .tup xs, v, h, r => by
    obtain ⟨a, vs, e, s, q⟩ := r
    subst e
    exact .tup (SqT.of (b _ _ s)) (dps_of b k xs vs (pur_purs h) q)
  | 0, .lst xs, _, h, _ => by cases h
  | 0, .tup xs, _, h, _ => by cases h
  | k, .dic _ _, _, h, _ => by cases k <;> cases h
  | k, .ref _, _, h, _ => by cases k <;> cases h
  | k, .scr, _, h, _ => by cases k <;> cases h
  | k, .clo _ _ _, _, h, _ => by cases k <;> cases h
theorem dps_of {K : PySem.W.Frag} {wd : Wd} {H : Hp} (b : Ex wd.B H) : ∀ (k : Nat) (ds : List D) (vs : List V), purs k ds = true → RpL K wd ds vs → DpAll K H vs (toPs ds)
  | k, [], vs, _, r => by
    cases (show vs = _ from r)
    exact .nil
  | k, d :: ds, vs, h, r => by
    have h : (pur k d && purs k ds) = true := h
    rw [Bool.and_eq_true] at h
    obtain ⟨v, r', e, r1, r2⟩ := r
    subst e
    exact .cons (dp_of b k d v h.1 r1) (dps_of b k ds r' h.2 r2)
end
theorem deref_none {cs : Cs} {n : Nat} (h : getL (.ref n) cs = none) : deref cs (.ref n) = .ref n := by
  have h : (match cs n with
      | some (.lst xs) => some xs
      | _ => none) = none := h
  show (match cs n with
      | some (.lst xs) => D.lst xs
      | _ => .ref n) = .ref n
  split at h <;> simp_all
theorem deref_some {cs : Cs} {n : Nat} {xs : List D} (h : getL (.ref n) cs = some xs) : deref cs (.ref n) = .lst xs := by
  have h : (match cs n with
      | some (.lst xs) => some xs
      | _ => none) = some xs := h
  show (match cs n with
      | some (.lst xs) => D.lst xs
      | _ => .ref n) = .lst xs
  split at h <;> simp_all
theorem dp_deref {K : PySem.W.Frag} {wd : Wd} {F H : Hp} {cs : Cs} (R : Rl K wd F cs H) {d : D} {v : V} (h : pur 64 (deref cs d) = true) (r : Rp K wd d v) : Dp K H v (toP (deref cs d)) := by
  cases d with
  | ref n =>
    cases hc : getL (.ref n) cs with
    | none =>
      rw [deref_none hc] at h
      cases h
    | some xs =>
      obtain ⟨a, vs, e1, h1, r1⟩ := R.getL (d := .ref n) r hc
      rw [deref_some hc] at h ⊢
      subst e1
      exact .lst (SqL.of h1) (dps_of R.b 63 xs vs (pur_purs h) r1)
  | _ => exact dp_of R.b 64 _ v h r
theorem ref_eq : Ref2 X.K (rEqD X.K) sEq := by
  intro wd F cs H x y v w P PX Q R rx ry hs q
  obtain ⟨h1, h2, h3⟩ := hs
  refine ⟨_, _, dp_deref R h1 rx, dp_deref R h2 ry, pur_shaped h1, pur_shaped h2, ?_⟩
  rw [← eqD_eqv 64 64 _ _ h1 h2]
  exact q wd (.bl _) cs _ H (Wd.le.refl _) R rfl h3
theorem ref_ne : Ref2 X.K (rNeD X.K) sNe := by
  intro wd F cs H x y v w P PX Q R rx ry hs q
  obtain ⟨h1, h2, h3⟩ := hs
  refine ⟨_, _, dp_deref R h1 rx, dp_deref R h2 ry, pur_shaped h1, pur_shaped h2, ?_⟩
  rw [← eqD_eqv 64 64 _ _ h1 h2]
  exact q wd (.bl _) cs _ H (Wd.le.refl _) R rfl h3
theorem j_eq (hu : X.A.units + 64 < cLine) (ha : JE X W a ca) (hb : JE X W b cb) : JE X W (.Compare a [.Eq] [b] pos) (.app sEq (.cons ca (.cons cb .nil))) := j_cmp (op_eqD hu) ref_eq ha hb (nomark _)
theorem jt_eq (hu : X.A.units + 64 < cLine) (ha : JE X W a ca) (hb : JE X W b cb) : JT X W (.Compare a [.Eq] [b] pos) (.app sEq (.cons ca (.cons cb .nil))) := jt_cmp (op_eqD hu) ref_eq ha hb (nomark _)
theorem jt_ne (hu : X.A.units + 64 < cLine) (ha : JE X W a ca) (hb : JE X W b cb) : JT X W (.Compare a [.NotEq] [b] pos) (.app sNe (.cons ca (.cons cb .nil))) := jt_cmp (op_neD hu) ref_ne ha hb (nomark _)
end
end G

namespace G
open PySem PySem.Spec L2
open Evl (Ex)
section
variable {X : Cx} {W : WX} {pos : Pos} {a b c e : Expr} {ca cb cc ce : E} {K : PySem.W.Frag}

/-! ### None; in -/
theorem isN_V {wd : Wd} {d : D} {v : V} (r : Rp K wd d v) : isN d = decide (v = .non) := by
  cases d with
  | non => cases (show v = _ from r); rfl
  | bl x => cases (show v = _ from r); rfl
  | int x => cases (show v = _ from r); rfl
  | str x => cases (show v = _ from r); rfl
  | tup ds => obtain ⟨a, _, e, _⟩ := r; subst e; rfl
  | lst ds => obtain ⟨a, _, e, _⟩ := r; subst e; rfl
  | dic _ _ => obtain ⟨a, _, e, _⟩ := r; subst e; rfl
  | ref n => obtain ⟨a, _, e⟩ := r; subst e; rfl
  | scr => obtain ⟨a, _, e, _⟩ := r; subst e; rfl
  | clo _ _ _ => obtain ⟨a, _, _, e, _⟩ := r; subst e; rfl
theorem ref_isN : Ref2 X.K (fun x y H Q => y = .non ∧ Q (.bl (decide (x = .non))) H) sIsN := by
  intro wd F cs H x y v w P PX Q R rx ry hs q
  cases y with
  | non =>
    have hs : P (.bl (isN x)) cs := hs
    rw [isN_V rx] at hs
    exact ⟨ry, q wd (.bl _) cs _ H (Wd.le.refl _) R rfl hs⟩
  | _ => exact hs.elim
theorem j_isN (ha : JE X W a ca) (hb : JE X W b cb) : JE X W (.Compare a [.Is] [b] pos) (.app sIsN (.cons ca (.cons cb .nil))) := j_cmp op_isN ref_isN ha hb (nomark _)
theorem jt_isN (ha : JE X W a ca) (hb : JE X W b cb) : JT X W (.Compare a [.Is] [b] pos) (.app sIsN (.cons ca (.cons cb .nil))) := jt_cmp op_isN ref_isN ha hb (nomark _)
theorem flat_V {wd : Wd} {d : D} {v : V} (r : Rp K wd d v) (h : flat d = true) : flatV v = true := by
  cases d with
  | non => cases (show v = _ from r); rfl
  | bl x => cases (show v = _ from r); rfl
  | int x => cases (show v = _ from r); rfl
  | str x => cases (show v = _ from r); rfl
  | _ => cases h
theorem flats_V {wd : Wd} : ∀ {ds : List D} {vs : List V}, RpL K wd ds vs → ds.all flat = true → vs.all flatV = true
  | [], vs, r, _ => by cases (show vs = _ from r); rfl
  | d :: ds, vs, r, h => by
    obtain ⟨v, r', e, r1, r2⟩ := r
    subst e
    rw [List.all_cons, Bool.and_eq_true] at h ⊢
    exact ⟨flat_V r1 h.1, flats_V r2 h.2⟩
theorem eqD_V {wd : Wd} {d d' : D} {v v' : V} (r : Rp K wd d v) (r' : Rp K wd d' v') (h : flat d = true) (h' : flat d' = true) : eqD d d' = eqV v v' := by
  cases d with
  | non => cases (show v = _ from r); cases d' <;> first | (cases (show v' = _ from r'); rfl) | cases h'
  | bl x => cases (show v = _ from r); cases d' <;> first | (cases (show v' = _ from r'); rfl) | cases h'
  | int x => cases (show v = _ from r); cases d' <;> first | (cases (show v' = _ from r'); rfl) | cases h'
  | str x => cases (show v = _ from r); cases d' <;> first | (cases (show v' = _ from r'); rfl) | cases h'
  | _ => cases h
theorem inD_V {wd : Wd} {d : D} {v : V} (r : Rp K wd d v) (h : flat d = true) : ∀ {ds : List D} {vs : List V}, RpL K wd ds vs → ds.all flat = true → inD d ds = inV v vs
  | [], vs, q, _ => by cases (show vs = _ from q); rfl
  | x :: ds, vs, q, z => by
    obtain ⟨v', r', e, r1, r2⟩ := q
    subst e
    rw [List.all_cons, Bool.and_eq_true] at z
    have := inD_V r h r2 z.2
    unfold inD inV at this ⊢
    rw [List.any_cons, List.any_cons, this, eqD_V r1 r z.1 h]
theorem ref_in : Ref2 X.K (rIn X.K false) sIn := by
  intro wd F cs H x y v w P PX Q R rx ry hs q
  have hs : (match getQ y cs with
    | some xs => flat x = true ∧ xs.all flat = true ∧ P (.bl (inD x xs)) cs
    | none => False) := hs
  cases ey : getQ y cs with
  | none => rw [ey] at hs; exact hs.elim
  | some xs =>
    rw [ey] at hs
    obtain ⟨h1, h2, h3⟩ := hs
    obtain ⟨a, vs, e, s, r⟩ := R.getQ ry ey
    refine ⟨a, vs, e, s.imp SqL.of id, flat_V rx h1, flats_V r h2, ?_⟩
    rw [inD_V rx h1 r h2] at h3
    exact q wd (.bl _) cs _ H (Wd.le.refl _) R rfl h3
theorem jt_in (ha : JE X W a ca) (hb : JE X W b cb) (hm : behindInMarks .In b = false := by rfl) : JT X W (.Compare a [.In] [b] pos) (.app sIn (.cons ca (.cons cb .nil))) := jt_cmp op_in_seq ref_in ha hb hm
/-! ### items -/
theorem ix_V {wd : Wd} {ds : List D} {vs : List V} {i : Int} {d : D} (r : RpL K wd ds vs) (h : ix ds i = some d) : ∃ v, atI vs i = some v ∧ Rp K wd d v := by
  unfold ix at h
  cases e : ixn ds.length i with
  | none =>
    rw [e] at h
    cases h
  | some j =>
    rw [e] at h
    have h : ds[j]? = some d := h
    obtain ⟨v, h1, h2⟩ := r.get h
    refine ⟨v, ?_, h2⟩
    have e2 : ixN vs.length i = some j := by rw [r.length]; exact e
    unfold atI
    rw [e2]
    exact h1
def rIxA (K : PySem.W.Frag) : R2 := fun x y H Q => rIxL K x y H Q ∨ rIxT K x y H Q
theorem ref_ix : Ref2 X.K (rIxA X.K) sIx := by
  intro wd F cs H x y v w P PX Q R rx ry hs q
  cases y with
  | int i =>
    have hs : (match getQ x cs with
      | some xs => match ix xs i with
        | some d => P d cs
        | none => False
      | none => False) := by cases x <;> exact hs
    cases ex : getQ x cs with
    | none => rw [ex] at hs; exact hs.elim
    | some xs =>
      rw [ex] at hs
      have hs : (match ix xs i with
        | some d => P d cs
        | none => False) := hs
      cases ed : ix xs i with
      | none => rw [ed] at hs; exact hs.elim
      | some d =>
        rw [ed] at hs
        obtain ⟨a, vs, e, s, r⟩ := R.getQ rx ex
        obtain ⟨z, hz, rz⟩ := ix_V r ed
        have fin := q wd d cs z H (Wd.le.refl _) R rz hs
        rcases s with s | s
        · exact .inl ⟨a, vs, i, z, e, ry, SqL.of s, hz, fin⟩
        · exact .inr ⟨a, vs, i, z, e, ry, s, hz, fin⟩
  | _ => exact absurd hs (by cases x <;> exact fun z => z)
theorem j_ix (ha : JE X W a ca) (hb : JE X W b cb) (hs : PlainIx b := by exact fun _ _ => rfl) : JE X W (.Subscript a b pos) (.app sIx (.cons ca (.cons cb .nil))) := by
  obtain ⟨ta, p1, r1⟩ := ha
  obtain ⟨tb, p2, r2⟩ := hb
  exact ⟨_, pe_ix (ix_list.or ix_tup) p1 p2 hs, ref_bin ref_ix r1 r2⟩

/-! ### displays -/
variable {es : List Expr} {ces : Es}
theorem j_list {k : Nat} (h : JA X W es ces) : JE X W (.List es pos) (.app sList ces) := by
  obtain ⟨ta, p1, r1⟩ := h
  refine ⟨_, pe_lst p1, fun wd F τ cs σ H P PX Q R rs h q x => ?_⟩
  refine r1 wd F τ cs σ H _ PX _ R rs h (fun wd1 ds c1 vs H1 l1 R1 rv h1 => ⟨by rw [rv.length, sizeL]; exact h1.1, fun p hp => ?_⟩) x
  obtain ⟨wd2, l2, R2, r2⟩ := R1.lst hp rv
  exact q wd2 _ c1 _ _ (l1.trans l2) R2 r2 h1.2
theorem j_listM (h : JA X W es ces) : JE X W (.List es pos) (.app sListM ces) := by
  obtain ⟨ta, p1, r1⟩ := h
  refine ⟨_, pe_lst p1, fun wd F τ cs σ H P PX Q R rs h q x => ?_⟩
  refine r1 wd F τ cs σ H _ PX _ R rs h (fun wd1 ds c1 vs H1 l1 R1 rv h1 => ⟨by rw [rv.length, sizeL]; exact h1.1, fun p hp => ?_⟩) x
  obtain ⟨n, wd2, hn, l2, R2, r2⟩ := R1.cellL hp rv
  exact q wd2 _ _ _ _ (l1.trans l2) R2 r2 (h1.2 n hn)
theorem j_tup {k : Nat} (h : JA X W es ces) : JE X W (.Tuple es k pos) (.app sTup ces) := by
  obtain ⟨ta, p1, r1⟩ := h
  refine ⟨_, pe_tup p1, fun wd F τ cs σ H P PX Q R rs h q x => ?_⟩
  refine r1 wd F τ cs σ H _ PX _ R rs h (fun wd1 ds c1 vs H1 l1 R1 rv h1 => ⟨by rw [rv.length, sizeL]; exact h1.1, fun p hp => ?_⟩) x
  obtain ⟨wd2, l2, R2, r2⟩ := R1.tup hp rv
  exact q wd2 _ c1 _ _ (l1.trans l2) R2 r2 h1.2

/-! ### built-ins -/
theorem j_bltn {r : List V → Hp → VK → Prop} {sp : Spec} {id : String} {x : Str} {p : Pos} (hc : CallR X (.builtin id) r) (hr : RefN X.K r sp) (hg : Gl X x) (hm : X.mg x = none) (hv : bootBuiltins x = some (.builtin id)) (ha : JA X W (e :: es) ces)
    (hn : x ≠ "__name__" := by decide) (hdb : (x == ("__debug__" : Str)) = false := by decide) (he : starEach (e :: es) X.env = (false, eval e X.env) :: starEach es X.env := by rfl) (hpl : (backTo pos (starEach es X.env)).any (·.1) = false := by rfl) :
    JE X W (.Call (.Name x p) (e :: es) [] pos) (.app sp ces) := by
  obtain ⟨ta, p1, r1⟩ := ha
  refine ⟨_, pe_callB hc hg hm hv p1 hn hdb he hpl, fun wd F τ cs σ H P PX Q R rs h q x => ?_⟩
  refine r1 wd F τ cs σ H _ PX _ R rs h (fun wd1 ds c1 vs H1 l1 R1 rv h1 => ?_) x
  exact hr wd1 F c1 H1 ds vs P PX Q R1 rv h1 (q.mono l1)
theorem j_bltnTy {r : List V → Hp → VK → Prop} {sp : Spec} {T : String} {x : Str} {p : Pos} (hc : CallR X (.type T) r) (hr : RefN X.K r sp) (hg : Gl X x) (hm : X.mg x = none) (hv : bootBuiltins x = some (.type T)) (ha : JA X W (e :: es) ces)
    (hn : x ≠ "__name__" := by decide) (hdb : (x == ("__debug__" : Str)) = false := by decide) (he : starEach (e :: es) X.env = (false, eval e X.env) :: starEach es X.env := by rfl) (hpl : (backTo pos (starEach es X.env)).any (·.1) = false := by rfl) :
    JE X W (.Call (.Name x p) (e :: es) [] pos) (.app sp ces) := by
  obtain ⟨ta, p1, r1⟩ := ha
  refine ⟨_, pe_callTy hc hg hm hv p1 hn hdb he hpl, fun wd F τ cs σ H P PX Q R rs h q x => ?_⟩
  refine r1 wd F τ cs σ H _ PX _ R rs h (fun wd1 ds c1 vs H1 l1 R1 rv h1 => ?_) x
  exact hr wd1 F c1 H1 ds vs P PX Q R1 rv h1 (q.mono l1)
theorem refn_len : RefN X.K (fun xs H Q => ∃ x n, xs = [x] ∧ LenV X.K x H n ∧ Q (.int n) H) sLen := by
  intro wd F cs H ds vs P PX Q R r hs q
  match ds, hs with
  | [d], hs =>
    obtain ⟨v, e, rv⟩ := r.one
    have go : (match getQ d cs with
        | some xs => P (.int xs.length) cs
        | none => False) → ∃ x n, vs = [x] ∧ LenV X.K x H n ∧ Q (.int n) H := fun h => by
      cases ex : getQ d cs with
      | none => rw [ex] at h; exact h.elim
      | some xs =>
        rw [ex] at h
        obtain ⟨a, ws, e2, s, r2⟩ := R.getQ rv ex
        subst e2
        refine ⟨.ref a, xs.length, e, ?_, q wd (.int _) cs _ H (Wd.le.refl _) R rfl h⟩
        rcases s with s | s
        · exact .inl ⟨ws, SqL.of s, r2.length.symm⟩
        · exact .inr ⟨ws, s, r2.length.symm⟩
    cases d with
    | str s =>
      cases (show v = _ from rv)
      exact ⟨.str s, s.length, e, ⟨by rw [sizeL]; exact hs.1, rfl⟩, q wd (.int _) cs _ H (Wd.le.refl _) R rfl hs.2⟩
    | tup xs => exact go hs
    | lst xs => exact go hs
    | ref n => exact go hs
    | _ => exact hs.elim
  | [], hs => exact hs.elim
  | _ :: _ :: _, hs => exact absurd hs (by intro z; first | exact z | (revert z; unfold sLen; simp))
theorem j_len {p : Pos} (hg : Gl X "len") (hm : X.mg "len" = none) (ha : JE X W a ca) (h1 : starEach [a] X.env = (false, eval a X.env) :: starEach [] X.env := by rfl) : JE X W (.Call (.Name "len" p) [a] [] pos) (.app sLen (.cons ca .nil)) :=
  j_bltn call_len refn_len hg hm PySem.boot_len (ja_cons ha ja_nil h1) (he := h1) (hpl := rfl)
end
end G

namespace G
open PySem PySem.Spec L2
open Evl (Ex)
section
variable {X : Cx} {W : WX} {pos : Pos} {a b c e : Expr} {ca cb cc ce : E} {K : PySem.W.Frag} {p : Pos}

theorem boot_listG : bootBuiltins "list" = some (.type "list") := by decide +kernel
theorem boot_tupleG : bootBuiltins "tuple" = some (.type "tuple") := by decide +kernel
theorem boot_intG : bootBuiltins "int" = some (.type "int") := by decide +kernel
theorem boot_boolG : bootBuiltins "bool" = some (.type "bool") := by decide +kernel
theorem boot_strG : bootBuiltins "str" = some (.type "str") := by decide +kernel
/-! ### list(..), tuple(..) -/
theorem refn_one {r : List V → Hp → VK → Prop} {f : D → Cs → KD → Prop} (hf : ∀ wd F cs H d v (P : KD) (Q : VK), Rl K wd F cs H → Rp K wd d v → f d cs P → QOk K wd F P Q → r [v] H Q) : RefN K r (fun ds cs Q _ => match ds with
    | [d] => f d cs Q
    | _ => False) := by
  intro wd F cs H ds vs P PX Q R rv hs q
  match ds, rv, hs with
  | [d], rv, hs =>
    obtain ⟨v, e, rv1⟩ := rv.one
    subst e
    exact hf wd F cs H d v P Q R rv1 hs q
  | [], _, hs => exact hs.elim
  | _ :: _ :: _, _, hs => exact hs.elim
theorem refn_listOf : RefN X.K (fun xs H Q => ∃ p ys, xs = [.ref p] ∧ (SqL X.K H p ys ∨ SqT X.K H p ys) ∧ ∀ l, H l = none → Q (.ref l) (upd H l (.lst ys))) sListOf := by
  refine refn_one (f := fun d cs Q => match getQ d cs with
    | some xs => Q (.lst xs) cs
    | none => False) fun wd F cs H d v P Q R rv h q => ?_
  cases ex : getQ d cs with
  | none => simp only [ex] at h
  | some xs =>
    simp only [ex] at h
    obtain ⟨a, ws, e2, s, r2⟩ := R.getQ rv ex
    subst e2
    refine ⟨a, ws, rfl, s.imp SqL.of id, fun l hl => ?_⟩
    obtain ⟨wd', le, R', rp⟩ := R.lst hl r2
    exact q wd' _ cs _ _ le R' rp h
theorem refn_tupOf : RefN X.K (fun xs H Q => ∃ p ys, xs = [.ref p] ∧ ((SqL X.K H p ys ∧ ∀ l, H l = none → Q (.ref l) (upd H l (.tup ys))) ∨ (SqT X.K H p ys ∧ Q (.ref p) H))) sTupOf := by
  refine refn_one (f := fun d cs Q => match getQ d cs with
    | some xs => Q (.tup xs) cs
    | none => False) fun wd F cs H d v P Q R rv h q => ?_
  have byL : ∀ {a ws xs}, v = .ref a → H a = some (.lst ws) → RpL X.K wd xs ws → P (.tup xs) cs → ∃ p ys, [v] = [.ref p] ∧ ((SqL X.K H p ys ∧ ∀ l, H l = none → Q (.ref l) (upd H l (.tup ys))) ∨ (SqT X.K H p ys ∧ Q (.ref p) H)) := fun {a ws xs} e2 s r2 h => by
    subst e2
    refine ⟨a, ws, rfl, .inl ⟨SqL.of s, fun l hl => ?_⟩⟩
    obtain ⟨wd', le, R', rp⟩ := R.tup hl r2
    exact q wd' _ cs _ _ le R' rp h
  cases d with
  | tup xs =>
    have h : P (.tup xs) cs := h
    obtain ⟨a, ws, e2, s, r2⟩ := id rv
    have := q wd _ cs _ H (Wd.le.refl _) R rv h
    subst e2
    exact ⟨a, ws, rfl, .inr ⟨(SqT.of (R.b _ _ s)), this⟩⟩
  | lst xs =>
    obtain ⟨a, ws, e2, s, r2⟩ := R.getL (d := .lst xs) rv rfl
    exact byL e2 s r2 h
  | ref n =>
    cases ex : getL (.ref n) cs with
    | none =>
      have ex : getQ (.ref n) cs = none := ex
      simp only [ex] at h
    | some xs =>
      have ex2 : getQ (.ref n) cs = some xs := ex
      simp only [ex2] at h
      obtain ⟨a, ws, e2, s, r2⟩ := R.getL (d := .ref n) rv ex
      exact byL e2 s r2 h
  | _ => exact h.elim
theorem j_listOf (hg : Gl X "list") (hm : X.mg "list" = none) (ha : JE X W a ca) (h1 : starEach [a] X.env = (false, eval a X.env) :: starEach [] X.env := by rfl) : JE X W (.Call (.Name "list" p) [a] [] pos) (.app sListOf (.cons ca .nil)) :=
  j_bltnTy call_list_of refn_listOf hg hm boot_listG (ja_cons ha ja_nil h1) (he := h1) (hpl := rfl)
theorem j_tupOf (hg : Gl X "tuple") (hm : X.mg "tuple" = none) (ha : JE X W a ca) (h1 : starEach [a] X.env = (false, eval a X.env) :: starEach [] X.env := by rfl) : JE X W (.Call (.Name "tuple" p) [a] [] pos) (.app sTupOf (.cons ca .nil)) :=
  j_bltnTy call_tuple_of refn_tupOf hg hm boot_tupleG (ja_cons ha ja_nil h1) (he := h1) (hpl := rfl)

/-! ### list(range(..)) -/
theorem rgD_V {wd : Wd} (a b : Int) : RpL K wd (rgD a b) (rgV a b) := by
  unfold rgD rgV
  generalize (b - a).toNat = n
  have : ∀ l : List Nat, RpL K wd (l.map fun i => D.int (a + (i : Nat))) (l.map fun i => V.int (a + (i : Nat))) := by
    intro l
    induction l with
    | nil => rfl
    | cons x r ih => exact ⟨_, _, rfl, rfl, ih⟩
  exact this _
theorem j_listRg1 {q p' : Pos} (hc : X.calm = true) (hg : Gl X "list") (hm : X.mg "list" = none) (hg2 : Gl X "range") (hm2 : X.mg "range" = none) (ha : JE X W a ca) (h1 : starEach [a] X.env = (false, eval a X.env) :: starEach [] X.env := by rfl)
    (h2 : starEach [Expr.Call (.Name "range" q) [a] [] p'] X.env = (false, eval (.Call (.Name "range" q) [a] [] p') X.env) :: starEach [] X.env := by rfl) :
    JE X W (.Call (.Name "list" p) [.Call (.Name "range" q) [a] [] p'] [] pos) (.app sListRg (.cons (.c (.int 0)) (.cons ca .nil))) := by
  obtain ⟨ta, p1, r1⟩ := ha
  refine ⟨_, pe_listRg hc hg hm (prg_1 hg2 hm2 p1 h1) h2, fun wd F τ cs σ H P PX Q R rs h q x => ?_⟩
  refine r1 wd F τ cs σ H _ PX _ R rs h (fun wd1 d c1 v H1 l1 R1 rv h1 => ?_) x
  cases d with
  | int n =>
    obtain ⟨b1, b2, b3, b4, b5, h2⟩ := h1
    refine ⟨n, rv, ⟨b1, b2, b3, b4, b5⟩, fun p hp => ?_⟩
    obtain ⟨wd2, l2, R2, r2⟩ := R1.lst hp (rgD_V 0 n)
    exact q wd2 _ c1 _ _ (l1.trans l2) R2 r2 h2
  | _ => exact h1.elim
/-! ### all, sum, min, max -/
theorem asBools_V {wd : Wd} : ∀ {ds : List D} {vs : List V} {bs : List Bool}, RpL K wd ds vs → asBools ds = some bs → vs = bs.map V.bl
  | [], vs, bs, r, h => by
    cases (show vs = _ from r)
    cases h
    rfl
  | d :: ds, vs, bs, r, h => by
    obtain ⟨v, r', e, r1, r2⟩ := r
    subst e
    cases d with
    | bl x =>
      have h : (asBools ds).map (x :: ·) = some bs := h
      cases q : asBools ds with
      | none => rw [q] at h; cases h
      | some cs =>
        rw [q] at h
        cases h
        cases (show v = _ from r1)
        rw [asBools_V r2 q]
        rfl
    | _ => cases h
theorem asInts_V {wd : Wd} : ∀ {ds : List D} {vs : List V} {bs : List Int}, RpL K wd ds vs → asInts ds = some bs → vs = bs.map V.int
  | [], vs, bs, r, h => by
    cases (show vs = _ from r)
    cases h
    rfl
  | d :: ds, vs, bs, r, h => by
    obtain ⟨v, r', e, r1, r2⟩ := r
    subst e
    cases d with
    | int x =>
      have h : (asInts ds).map (x :: ·) = some bs := h
      cases q : asInts ds with
      | none => rw [q] at h; cases h
      | some cs =>
        rw [q] at h
        cases h
        cases (show v = _ from r1)
        rw [asInts_V r2 q]
        rfl
    | _ => cases h
theorem refn_all : RefN X.K (rAll X.K) sAll := by
  refine refn_one (f := fun d cs Q => match getL d cs with
    | some xs => match asBools xs with
      | some bs => Q (.bl (bs.all id)) cs
      | none => False
    | none => False) fun wd F cs H d v P Q R rv h q => ?_
  cases ex : getL d cs with
  | none => simp only [ex] at h
  | some xs =>
    simp only [ex] at h
    cases eb : asBools xs with
    | none => simp only [eb] at h
    | some bs =>
      simp only [eb] at h
      obtain ⟨a, ws, e2, s, r2⟩ := R.getL rv ex
      subst e2
      have := asBools_V r2 eb
      subst this
      exact ⟨a, bs, rfl, SqL.of s, q wd (.bl _) cs _ H (Wd.le.refl _) R rfl h⟩
theorem boot_allG : bootBuiltins "all" = some (.builtin "all") := by decide +kernel
theorem boot_minG : bootBuiltins "min" = some (.builtin "min") := by decide +kernel
theorem boot_maxG : bootBuiltins "max" = some (.builtin "max") := by decide +kernel
theorem boot_isiG : bootBuiltins "isinstance" = some (.builtin "isinstance") := by decide +kernel
theorem j_all (hc : X.calm = true) (hg : Gl X "all") (hm : X.mg "all" = none) (ha : JE X W a ca) (h1 : starEach [a] X.env = (false, eval a X.env) :: starEach [] X.env := by rfl) : JE X W (.Call (.Name "all" p) [a] [] pos) (.app sAll (.cons ca .nil)) :=
  j_bltn (cr_all hc) refn_all hg hm boot_allG (ja_cons ha ja_nil h1) (he := h1) (hpl := rfl)
theorem refn_int2 {f : Int → Int → D} {g : Int → Int → V} (hfg : ∀ wd i j, Rp K wd (f i j) (g i j)) : RefN K (fun xs H Q => ∃ i j, xs = [.int i, .int j] ∧ Q (g i j) H) (sInt CTrue f) := by
  intro wd F cs H ds vs P PX Q R r hs q
  match ds, r, hs with
  | [x, y], r, hs =>
    obtain ⟨v, w, e, r1, r2⟩ := r.two
    obtain ⟨i, j, e1, e2, _, hp⟩ := sInt_inv hs
    subst e1 e2 e
    exact ⟨i, j, by rw [show v = _ from r1, show w = _ from r2], q wd _ cs _ H (Wd.le.refl _) R (hfg wd i j) hp⟩
  | [], _, hs => exact hs.elim
  | [x], _, hs => exact absurd hs (by unfold sInt; cases x <;> exact fun z => z)
  | x :: y :: _ :: _, _, hs => exact absurd hs (by unfold sInt; cases x <;> first | exact fun z => z | (cases y <;> exact fun z => z))
theorem j_max2 (hc : X.calm = true) (hg : Gl X "max") (hm : X.mg "max" = none) (ha : JE X W a ca) (hb : JE X W b cb) (h1 : starEach [a, b] X.env = (false, eval a X.env) :: starEach [b] X.env := by rfl) (h2 : starEach [b] X.env = (false, eval b X.env) :: starEach [] X.env := by rfl) (hpl : (backTo pos (starEach [b] X.env)).any (·.1) = false := by rfl) :
    JE X W (.Call (.Name "max" p) [a, b] [] pos) (.app sMax2 (.cons ca (.cons cb .nil))) :=
  j_bltn (call_max2 hc) (refn_int2 fun _ _ _ => rfl) hg hm boot_maxG (ja_cons ha (ja_cons hb ja_nil h2) h1) (he := h1) (hpl := hpl)
theorem j_min2 (hc : X.calm = true) (hg : Gl X "min") (hm : X.mg "min" = none) (ha : JE X W a ca) (hb : JE X W b cb) (h1 : starEach [a, b] X.env = (false, eval a X.env) :: starEach [b] X.env := by rfl) (h2 : starEach [b] X.env = (false, eval b X.env) :: starEach [] X.env := by rfl) (hpl : (backTo pos (starEach [b] X.env)).any (·.1) = false := by rfl) :
    JE X W (.Call (.Name "min" p) [a, b] [] pos) (.app sMin2 (.cons ca (.cons cb .nil))) :=
  j_bltn (call_min2 hc) (refn_int2 fun _ _ _ => rfl) hg hm boot_minG (ja_cons ha (ja_cons hb ja_nil h2) h1) (he := h1) (hpl := hpl)

/-! ### isinstance -/
def tyN : Ty → String
  | .int => "int"
  | .bool => "bool"
  | .str => "str"
  | .list => "list"
  | .tuple => "tuple"
theorem kit_none (t : Ty) : kitB "NoneType" (tyN t) = some false := by cases t <;> decide +kernel
theorem kit_bool (t : Ty) : kitB "bool" (tyN t) = isTy (fun _ => none) (.bl true) t := by cases t <;> decide +kernel
theorem kit_int (t : Ty) : kitB "int" (tyN t) = isTy (fun _ => none) (.int 0) t := by cases t <;> decide +kernel
theorem kit_str (t : Ty) : kitB "str" (tyN t) = isTy (fun _ => none) (.str (Str.ofString "")) t := by cases t <;> decide +kernel
theorem kit_tup (t : Ty) : kitB "tuple" (tyN t) = isTy (fun _ => none) (.tup []) t := by cases t <;> decide +kernel
theorem kit_lst (t : Ty) : kitB "list" (tyN t) = isTy (fun _ => none) (.lst []) t := by cases t <;> decide +kernel
/-- a value's type, with the answers -/
theorem ty_V {wd : Wd} {F H : Hp} {cs : Cs} (R : Rl K wd F cs H) {d : D} {v : V} (r : Rp K wd d v) (hk : ∃ t b, isTy cs d t = some b) : ∃ n : String, TyX K H v (.type n) ∧ ∀ t b, isTy cs d t = some b → kitB n (tyN t) = some b := by
  cases d with
  | non => cases (show v = _ from r); exact ⟨_, .base .non, fun t b h => by rw [kit_none]; exact h⟩
  | bl x => cases (show v = _ from r); exact ⟨_, .base (.bl x), fun t b h => by rw [kit_bool, ← h]; cases t <;> rfl⟩
  | int x => cases (show v = _ from r); exact ⟨_, .base (.int x), fun t b h => by rw [kit_int, ← h]; cases t <;> rfl⟩
  | str x => cases (show v = _ from r); exact ⟨_, .base (.str x), fun t b h => by rw [kit_str, ← h]; cases t <;> rfl⟩
  | tup ds =>
    obtain ⟨a, xs, e, s, _⟩ := r
    subst e
    refine ⟨"tuple", ?_, fun t b h => by rw [kit_tup, ← h]; cases t <;> rfl⟩
    rcases (SqT.of (R.b _ _ s)) with (s | ⟨o, s⟩) | ⟨o, its, n, h1, h2, _⟩
    · exact .base (.tup s)
    · exact .fTuple s
    · exact .kTuple h1 h2
  | lst ds =>
    obtain ⟨a, xs, e, s, _⟩ := r
    subst e
    exact ⟨"list", .base (.lst (R.b a _ s)), fun t b h => by rw [kit_lst, ← h]; cases t <;> rfl⟩
  | dic _ _ => obtain ⟨t, b, h⟩ := hk; cases t <;> cases h
  | scr => obtain ⟨t, b, h⟩ := hk; cases t <;> cases h
  | clo _ _ _ => obtain ⟨t, b, h⟩ := hk; cases t <;> cases h
  | ref n =>
    obtain ⟨t, b, h⟩ := hk
    have hl : ∃ xs, cs n = some (.lst xs) := by
      cases q : cs n with
      | none => simp only [isTy, q] at h; cases h
      | some o =>
        cases o with
        | lst xs => exact ⟨xs, rfl⟩
        | _ => simp only [isTy, q] at h; cases h
    obtain ⟨xs, hl⟩ := hl
    obtain ⟨a, ws, e, s, _⟩ := R.getL (d := .ref n) (xs := xs) r (by simp only [getL, hl])
    subst e
    refine ⟨"list", .base (.lst s), fun t b h => ?_⟩
    rw [kit_lst, ← h]
    cases t <;> simp only [isTy, hl]
theorem j_isi {T : Str} {t : Ty} {q : Pos} (hg : Gl X "isinstance") (hm : X.mg "isinstance" = none) (hgT : Gl X T) (hmT : X.mg T = none) (hT : bootBuiltins T = some (.type (tyN t))) (ha : JE X W a ca) (hTn : T ≠ "__name__" := by decide) (hTd : (T == ("__debug__" : Str)) = false := by decide)
    (h1 : starEach [a, .Name T q] X.env = (false, eval a X.env) :: starEach [.Name T q] X.env := by rfl) (h2 : starEach [.Name T q] X.env = (false, eval (.Name T q) X.env) :: starEach [] X.env := by rfl) (hpl : (backTo pos (starEach [.Name T q] X.env)).any (·.1) = false := by rfl) :
    JE X W (.Call (.Name "isinstance" p) [a, .Name T q] [] pos) (.app (sIsi t) (.cons ca .nil)) := by
  obtain ⟨ta, p1, r1⟩ := ha
  refine ⟨_, pe_callB call_isi hg hm boot_isiG (pa_cons p1 (pa_cons (pe_bltn (v := .ty (tyN t)) hgT hmT hT rfl hTn hTd) pa_nil h2) h1) (he := h1) (hpl := hpl), fun wd F τ cs σ H P PX Q R rs h q x => ?_⟩
  refine r1 wd F τ cs σ H _ PX _ R rs h (fun wd1 d c1 v H1 l1 R1 rv h1 => ?_) x
  have h1 : (match isTy c1 d t with
    | some b => P (.bl b) c1
    | none => False) := h1
  cases eb : isTy c1 d t with
  | none => rw [eb] at h1; exact h1.elim
  | some b =>
    rw [eb] at h1
    obtain ⟨n, ty, hk⟩ := ty_V R1 rv ⟨t, b, eb⟩
    exact ⟨v, .ty (tyN t), .type n, .type (tyN t), b, rfl, .ty _, ty, kit_ty (hk t b eb), q wd1 (.bl b) c1 _ H1 l1 R1 rfl h1⟩
theorem j_isi2 {T T' : Str} {t t' : Ty} {q q' r' : Pos} {kk : Nat} (hg : Gl X "isinstance") (hm : X.mg "isinstance" = none) (hgT : Gl X T) (hmT : X.mg T = none) (hT : bootBuiltins T = some (.type (tyN t))) (hgT' : Gl X T') (hmT' : X.mg T' = none) (hT' : bootBuiltins T' = some (.type (tyN t'))) (ha : JE X W a ca)
    (hTn : T ≠ "__name__" := by decide) (hTd : (T == ("__debug__" : Str)) = false := by decide) (hTn' : T' ≠ "__name__" := by decide) (hTd' : (T' == ("__debug__" : Str)) = false := by decide)
    (h1 : starEach [a, .Tuple [.Name T q, .Name T' q'] kk r'] X.env = (false, eval a X.env) :: starEach [.Tuple [.Name T q, .Name T' q'] kk r'] X.env := by rfl) (h2 : starEach [.Tuple [.Name T q, .Name T' q'] kk r'] X.env = (false, eval (.Tuple [.Name T q, .Name T' q'] kk r') X.env) :: starEach [] X.env := by rfl) (hpl : (backTo pos (starEach [.Tuple [.Name T q, .Name T' q'] kk r'] X.env)).any (·.1) = false := by rfl)
    (h3 : starEach [.Name T q, .Name T' q'] X.env = (false, eval (.Name T q) X.env) :: starEach [.Name T' q'] X.env := by rfl) (h4 : starEach [.Name T' q'] X.env = (false, eval (.Name T' q') X.env) :: starEach [] X.env := by rfl) :
    JE X W (.Call (.Name "isinstance" p) [a, .Tuple [.Name T q, .Name T' q'] kk r'] [] pos) (.app (sIsi2 t t') (.cons ca .nil)) := by
  obtain ⟨ta, p1, r1⟩ := ha
  refine ⟨_, pe_callB call_isiT hg hm boot_isiG (pa_cons p1 (pa_cons (pe_tup (pa_cons (pe_bltn (v := .ty (tyN t)) hgT hmT hT rfl hTn hTd) (pa_cons (pe_bltn (v := .ty (tyN t')) hgT' hmT' hT' rfl hTn' hTd') pa_nil h4) h3)) pa_nil h2) h1) (he := h1) (hpl := hpl), fun wd F τ cs σ H P PX Q R rs h q x => ?_⟩
  refine r1 wd F τ cs σ H _ PX _ R rs h (fun wd1 d c1 v H1 l1 R1 rv h1 => ?_) x
  have h1 : (match isTy c1 d t, isTy c1 d t' with
    | some a, some b => P (.bl (a || b)) c1
    | _, _ => False) := h1
  cases eb : isTy c1 d t with
  | none => rw [eb] at h1; exact h1.elim
  | some b =>
    cases eb' : isTy c1 d t' with
    | none => rw [eb, eb'] at h1; exact h1.elim
    | some b' =>
      rw [eb, eb'] at h1
      refine ⟨by show 2 ≤ sizeLine; rw [sizeL]; decide, fun tp htp => ?_⟩
      obtain ⟨R2, l2⟩ := R1.new htp (.tup [.ty (tyN t), .ty (tyN t')])
      obtain ⟨n, ty, hk⟩ := ty_V R2 (rv.mono l2) ⟨t, b, eb⟩
      refine ⟨v, tp, [.ty (tyN t), .ty (tyN t')], .type n, [.type (tyN t), .type (tyN t')], b || b', rfl, upd_same, .cons (.ty _) (.cons (.ty _) .nil), ty, ?_, q _ (.bl (b || b')) c1 _ _ (l1.trans l2) R2 rfl h1⟩
      refine kitAny_cons (b := b) (kit_ty (hk t b eb)) (fun z => ?_) fun z => by rw [z]; rfl
      rw [z, Bool.false_or]
      exact kitAny_cons (b := b') (kit_ty (hk t' b' eb')) (fun z => by rw [z]; exact kitAny_nil) fun z => z
end
end G

/-! GStm: tests, statements, loops, comprehensions. -/
namespace G
open PySem PySem.Spec L2
open Evl (Ex)
def JW (X : Cx) (W : WX) (e : Expr) (c : E) : Prop := ∃ tt, PW X e tt ∧ RefT X W tt c
section
variable {X : Cx} {W : WX} {pos : Pos} {a b c e : Expr} {ca cb cc ce : E} {K : PySem.W.Frag} {p : Pos} {rest : List Expr}
/-! ### tests -/
theorem jt_val (h : JE X W e ce) (he : ∀ whole, isTrue e X.env whole = (do let v ← whole; standAt e.pos; holding [v] (truthy v)) := by intro _; rfl) : JT X W e ce := by
  obtain ⟨te, p1, r1⟩ := h
  refine ⟨_, pt_val p1 he, fun wd F τ cs σ H P PX Q R rs h q x => ?_⟩
  refine r1 wd F τ cs σ H _ PX _ R rs h (fun wd1 d c1 v H1 l1 R1 rv h1 => ?_) x
  obtain ⟨k, e, hp⟩ := q wd1 d c1 H1 l1 R1 h1
  subst e
  exact ⟨k, rv, hp⟩
theorem jt_w (h : JW X W e ce) : JT X W e ce := by
  obtain ⟨tt, p1, r1⟩ := h
  exact ⟨tt, p1.pt, r1⟩
theorem sNot_inv {d : D} {cs : Cs} {P : KD} {PX : KX} (h : sNot [d] cs P PX) : ∃ k, d = .bl k ∧ P (.bl (!k)) cs := by
  cases d with
  | bl k => exact ⟨k, rfl, h⟩
  | _ => exact h.elim
theorem jt_not (h : JT X W a ca) : JT X W (.UnaryOp .Not a pos) (.app sNot (.cons ca .nil)) := by
  obtain ⟨tt, p1, r1⟩ := h
  refine ⟨_, pt_not p1, fun wd F τ cs σ H P PX Q R rs h q x => ?_⟩
  refine r1 wd F τ cs σ H _ PX (fun c H1 => Q (!c) H1) R rs h (fun wd1 d c1 H1 l1 R1 h1 => ?_) x
  obtain ⟨k, e, hp⟩ := sNot_inv (PX := PX) h1
  obtain ⟨k', e', hp'⟩ := q wd1 _ c1 H1 l1 R1 hp
  cases e'
  exact ⟨k, e, hp'⟩
theorem jw_and1 (h : JT X W a ca) : JW X W (.BoolOp .And [a] pos) ca := by
  obtain ⟨tt, p1, r1⟩ := h
  exact ⟨_, pw_and1 p1, r1⟩
theorem jw_or1 (h : JT X W a ca) : JW X W (.BoolOp .Or [a] pos) ca := by
  obtain ⟨tt, p1, r1⟩ := h
  exact ⟨_, pw_or1 p1, r1⟩
theorem ref_andT {ta tb : TT} (r1 : RefT X W ta ca) (r2 : RefT X W tb cb) : RefT X W (tAnd ta tb) (.and ca cb) := by
  intro wd F τ cs σ H P PX Q R rs h q x
  refine r1 wd F τ cs σ H _ PX _ R rs h (fun wd1 d c1 H1 l1 R1 h1 => ?_) x
  cases d with
  | bl k =>
    refine ⟨k, rfl, ?_⟩
    cases k with
    | true => exact r2 wd1 F τ c1 σ H1 P PX Q R1 (rs.mono l1) h1 (fun wd2 d2 c2 H2 l2 => q wd2 d2 c2 H2 (l1.trans l2)) (x.mono l1)
    | false =>
      obtain ⟨k', e', hp'⟩ := q wd1 _ c1 H1 l1 R1 h1
      cases e'
      exact hp'
  | _ => exact h1.elim
theorem ref_orT {ta tb : TT} (r1 : RefT X W ta ca) (r2 : RefT X W tb cb) : RefT X W (tOr ta tb) (.or ca cb) := by
  intro wd F τ cs σ H P PX Q R rs h q x
  refine r1 wd F τ cs σ H _ PX _ R rs h (fun wd1 d c1 H1 l1 R1 h1 => ?_) x
  cases d with
  | bl k =>
    refine ⟨k, rfl, ?_⟩
    cases k with
    | false => exact r2 wd1 F τ c1 σ H1 P PX Q R1 (rs.mono l1) h1 (fun wd2 d2 c2 H2 l2 => q wd2 d2 c2 H2 (l1.trans l2)) (x.mono l1)
    | true =>
      obtain ⟨k', e', hp'⟩ := q wd1 _ c1 H1 l1 R1 h1
      cases e'
      exact hp'
  | _ => exact h1.elim
theorem jw_and (h1 : JT X W a ca) (h2 : JW X W (.BoolOp .And (b :: rest) pos) cb) : JW X W (.BoolOp .And (a :: b :: rest) pos) (.and ca cb) := by
  obtain ⟨ta, p1, r1⟩ := h1
  obtain ⟨tb, p2, r2⟩ := h2
  exact ⟨_, pw_and p1 p2, ref_andT r1 r2⟩
theorem jw_or (h1 : JT X W a ca) (h2 : JW X W (.BoolOp .Or (b :: rest) pos) cb) : JW X W (.BoolOp .Or (a :: b :: rest) pos) (.or ca cb) := by
  obtain ⟨ta, p1, r1⟩ := h1
  obtain ⟨tb, p2, r2⟩ := h2
  exact ⟨_, pw_or p1 p2, ref_orT r1 r2⟩
/-! ### the same as values -/
theorem je_one {op} (h : JE X W a ca) : JE X W (.BoolOp op [a] pos) ca := by
  obtain ⟨ta, p1, r1⟩ := h
  exact ⟨_, pe_one p1, r1⟩
theorem je_and (h1 : JE X W a ca) (h2 : JE X W (.BoolOp .And (b :: rest) pos) cb) : JE X W (.BoolOp .And (a :: b :: rest) pos) (.and ca cb) := by
  obtain ⟨ta, p1, r1⟩ := h1
  obtain ⟨tb, p2, r2⟩ := h2
  refine ⟨_, pe_and p1 p2, fun wd F τ cs σ H P PX Q R rs h q x => ?_⟩
  refine r1 wd F τ cs σ H _ PX _ R rs h (fun wd1 d c1 v H1 l1 R1 rv h1 => ?_) x
  cases d with
  | bl k =>
    refine ⟨k, rv, ?_⟩
    cases k with
    | true => exact r2 wd1 F τ c1 σ H1 P PX Q R1 (rs.mono l1) h1 (q.mono l1) (x.mono l1)
    | false => exact q wd1 (.bl false) c1 _ H1 l1 R1 rfl h1
  | _ => exact h1.elim
theorem je_if (h : JT X W c cc) (h1 : JE X W a ca) (h2 : JE X W b cb) : JE X W (.IfExp c a b pos) (.ite cc ca cb) := by
  obtain ⟨tc, p0, r0⟩ := h
  obtain ⟨ta, p1, r1⟩ := h1
  obtain ⟨tb, p2, r2⟩ := h2
  refine ⟨_, pe_ifExp p0 p1 p2, fun wd F τ cs σ H P PX Q R rs h q x => ?_⟩
  refine r0 wd F τ cs σ H _ PX _ R rs h (fun wd1 d c1 H1 l1 R1 h1 => ?_) x
  cases d with
  | bl k =>
    refine ⟨k, rfl, ?_⟩
    cases k with
    | true => exact r1 wd1 F τ c1 σ H1 P PX Q R1 (rs.mono l1) h1 (q.mono l1) (x.mono l1)
    | false => exact r2 wd1 F τ c1 σ H1 P PX Q R1 (rs.mono l1) h1 (q.mono l1) (x.mono l1)
  | _ => exact h1.elim
/-! ### chains -/
theorem ref_chain {op op' : CmpOp} {r r' : R2} {s1 s2 : Spec} {ta tb tc : TE} (h1 : Ref2 X.K r s1) (h2 : Ref2 X.K r' s2) (ha : RefE X W ta ca) (hb : RefE X W tb cb) (hc : RefE X W tc cc) : RefE X W (tChain r r' ta tb tc) (.chain s1 s2 ca cb cc) := by
  intro wd F τ cs σ H P PX Q R rs h q x
  refine ha wd F τ cs σ H _ PX _ R rs h (fun wd1 d1 c1 v1 H1 l1 R1 rv1 h1' => ?_) x
  refine hb wd1 F τ c1 σ H1 _ PX _ R1 (rs.mono l1) h1' (fun wd2 d2 c2 v2 H2 l2 R2 rv2 h2' => ?_) (x.mono l1)
  refine h1 wd2 F c2 H2 d1 d2 v1 v2 _ PX _ R2 (rv1.mono l2) rv2 h2' fun wd3 d3 c3 v3 H3 l3 R3 rv3 h3 => ?_
  cases d3 with
  | bl k =>
    refine ⟨k, rv3, ?_⟩
    have l13 := l1.trans (l2.trans l3)
    cases k with
    | true =>
      refine hc wd3 F τ c3 σ H3 _ PX _ R3 (rs.mono l13) h3 (fun wd4 d4 c4 v4 H4 l4 R4 rv4 h4 => ?_) (x.mono l13)
      refine h2 wd4 F c4 H4 d2 d4 v2 v4 _ PX _ R4 (rv2.mono (l3.trans l4)) rv4 h4 fun wd5 d5 c5 v5 H5 l5 R5 rv5 h5 => ?_
      cases d5 with
      | bl k' => exact q wd5 _ c5 _ H5 (l13.trans (l4.trans l5)) R5 rv5 h5
      | _ => exact h5.elim
    | false => exact q wd3 (.bl false) c3 _ H3 l13 R3 rfl h3
  | _ => exact h3.elim
theorem j_chain {op op' : CmpOp} {r r' : R2} {s1 s2 : Spec} (ho : OpR X (compareOp op) r) (ho' : OpR X (compareOp op') r') (h1 : Ref2 X.K r s1) (h2 : Ref2 X.K r' s2) (ha : JE X W a ca) (hb : JE X W b cb) (hc : JE X W c cc)
    (hm : lastMarks [op, op'] [b, c] = false := by with_unfolding_all rfl) : JE X W (.Compare a [op, op'] [b, c] pos) (.chain s1 s2 ca cb cc) := by
  obtain ⟨ta, p1, r1⟩ := ha
  obtain ⟨tb, p2, r2⟩ := hb
  obtain ⟨tc, p3, r3⟩ := hc
  exact ⟨_, pe_chain ho ho' p1 p2 p3 hm, ref_chain (op := op) (op' := op') h1 h2 r1 r2 r3⟩
theorem jt_chain {op op' : CmpOp} {r r' : R2} {s1 s2 : Spec} (ho : OpR X (compareOp op) r) (ho' : OpR X (compareOp op') r') (h1 : Ref2 X.K r s1) (h2 : Ref2 X.K r' s2) (ha : JE X W a ca) (hb : JE X W b cb) (hc : JE X W c cc)
    (hm : lastMarks [op, op'] [b, c] = false := by with_unfolding_all rfl) : JT X W (.Compare a [op, op'] [b, c] pos) (.chain s1 s2 ca cb cc) := by
  obtain ⟨ta, p1, r1⟩ := ha
  obtain ⟨tb, p2, r2⟩ := hb
  obtain ⟨tc, p3, r3⟩ := hc
  exact ⟨_, pt_chain ho ho' p1 p2 p3 hm, ref_test (ref_chain (op := op) (op' := op') h1 h2 r1 r2 r3)⟩
theorem j_chLeLt (ha : JE X W a ca) (hb : JE X W b cb) (hc : JE X W c cc) (hm : lastMarks [.LtE, .Lt] [b, c] = false := by with_unfolding_all rfl) : JE X W (.Compare a [.LtE, .Lt] [b, c] pos) (.chain sLe sLt ca cb cc) := j_chain op_le op_lt (ref_int0 fun _ _ _ => rfl) (ref_int0 fun _ _ _ => rfl) ha hb hc hm
theorem jt_chLeLe (ha : JE X W a ca) (hb : JE X W b cb) (hc : JE X W c cc) (hm : lastMarks [.LtE, .LtE] [b, c] = false := by with_unfolding_all rfl) : JT X W (.Compare a [.LtE, .LtE] [b, c] pos) (.chain sLe sLe ca cb cc) := jt_chain op_le op_le (ref_int0 fun _ _ _ => rfl) (ref_int0 fun _ _ _ => rfl) ha hb hc hm

/-! ### targets -/
def RefG (X : Cx) (g : TG) (pt : Pat) (own : List Nat) : Prop := ∀ wd F τ cs σ H d v τ' (Q : St → Hp → Prop), Rl X.K wd F cs H → RS X.K wd τ σ → Rp X.K wd d v → bindP pt [d] τ = some τ' →
  (∀ σ', RS X.K wd τ' σ' → L2.wipe σ' own = L2.wipe σ own → Q σ' H) → g v σ H Q
def RefGs (X : Cx) (g : TGs) (pt : Pat) (own : List Nat) : Prop := ∀ wd F τ cs σ H ds vs τ' (Q : St → Hp → Prop), Rl X.K wd F cs H → RS X.K wd τ σ → RpL X.K wd ds vs → bindP pt ds τ = some τ' →
  (∀ σ', RS X.K wd τ' σ' → L2.wipe σ' own = L2.wipe σ own → Q σ' H) → g vs σ H Q
def JG (X : Cx) (tg : Expr) (pt : Pat) (own : List Nat) : Prop := ∃ g, PG X tg g ∧ RefG X g pt own
def JGs (X : Cx) (tgs : List Expr) (pt : Pat) (own : List Nat) (n : Nat) : Prop := ∃ g, PGs X tgs g ∧ RefGs X g pt own ∧ ∀ ds (τ : Sl) τ', bindP pt ds τ = some τ' → ds.length = n
theorem wipe_in {σ : St} {i : Nat} : ∀ {vs : List Nat}, i ∈ vs → (L2.wipe σ vs)[i]? = if i < σ.length then some none else none
  | v :: vs, h => by
    show ((L2.wipe σ vs).set v none)[i]? = _
    by_cases e : i = v
    · subst e
      by_cases hl : i < σ.length
      · rw [if_pos hl, List.getElem?_set_self (by rw [L2.wipe_length]; exact hl)]
      · rw [if_neg hl, List.getElem?_eq_none (by rw [List.length_set, L2.wipe_length]; omega)]
    · rw [List.getElem?_set_ne (Ne.symm e)]
      exact wipe_in ((List.mem_cons.mp h).resolve_left e)
theorem wipe_set {σ : St} {i : Nat} {v : Option V} {own : List Nat} (h : i ∈ own) : L2.wipe (σ.set i v) own = L2.wipe σ own := by
  apply List.ext_getElem?
  intro k
  by_cases hk : k ∈ own
  · rw [wipe_in hk, wipe_in hk, List.length_set]
  · rw [L2.wipe_out hk, L2.wipe_out hk, List.getElem?_set_ne (fun e : i = k => hk (by rw [← e]; exact h))]
theorem jg_nm (i : Nat) {own : List Nat} {x : Str} (hN : X.N.Nodup) (hi : X.N[i]? = some x) (hx : Loc X.env.scope x) (ho : i ∈ own) (hf : X.fn x = true ∨ X.env.scope.names.lookup x = some .local := by first | exact .inl rfl | exact .inr rfl | assumption) : JG X (.Name x pos) (.nm i) own := by
  refine ⟨_, pg_name hN hi hx hf, fun wd F τ cs σ H d v τ' Q R rs rv hb h => ?_⟩
  cases hb
  exact h _ (rs.set i rv) (wipe_set ho)
theorem jgs_nil {own : List Nat} : JGs X [] .nil own 0 := by
  refine ⟨_, pgs_nil, fun wd F τ cs σ H ds vs τ' Q R rs rv hb h => ?_, fun ds τ τ' h => ?_⟩
  · cases ds with
    | nil =>
      cases hb
      exact ⟨rv, h _ rs rfl⟩
    | cons _ _ => cases hb
  · cases ds with
    | nil => rfl
    | cons _ _ => cases h
theorem jgs_cons {own : List Nat} {tg : Expr} {tgs : List Expr} {p q : Pat} {n : Nat} (h1 : JG X tg p own) (h2 : JGs X tgs q own n) (hs : (assignEach (tg :: tgs) X.env).map (·.2) = assign tg X.env :: (assignEach tgs X.env).map (·.2) := by rfl) : JGs X (tg :: tgs) (.cons p q) own (n + 1) := by
  obtain ⟨g1, p1, r1⟩ := h1
  obtain ⟨g2, p2, r2, hl⟩ := h2
  refine ⟨_, pgs_cons p1 p2 hs, fun wd F τ cs σ H ds vs τ' Q R rs rv hb h => ?_, fun ds τ τ' h => ?_⟩
  · cases ds with
    | nil => cases hb
    | cons d ds =>
      obtain ⟨v, r, e, rv1, rv2⟩ := rv
      subst e
      have hb : (match bindP p [d] τ with
        | some σ' => bindP q ds σ'
        | none => none) = some τ' := hb
      cases e1 : bindP p [d] τ with
      | none => rw [e1] at hb; cases hb
      | some τ1 =>
        rw [e1] at hb
        refine ⟨v, r, rfl, r1 wd F τ cs σ H d v τ1 _ R rs rv1 e1 fun σ1 rs1 w1 => ?_⟩
        exact r2 wd F τ1 cs σ1 H ds r τ' Q R rs1 rv2 hb fun σ2 rs2 w2 => h σ2 rs2 (w2.trans w1)
  · cases ds with
    | nil => cases h
    | cons d ds =>
      have hb : (match bindP p [d] τ with
        | some σ' => bindP q ds σ'
        | none => none) = some τ' := h
      cases e1 : bindP p [d] τ with
      | none => rw [e1] at hb; cases hb
      | some τ1 =>
        rw [e1] at hb
        rw [List.length_cons, hl ds τ1 τ' hb]
theorem jg_tup {own : List Nat} {es : List Expr} {k n : Nat} {q : Pat} (hc : X.calm = true) (h : JGs X es q own n) (hn : (assignEach es X.env).length = n := by rfl) (hst : (assignEach es X.env).findIdx? (·.1) = none := by rfl) : JG X (.Tuple es k pos) (.tup q) own := by
  obtain ⟨g, p1, r1, hl⟩ := h
  refine ⟨_, pg_tup hc p1 hn hst, fun wd F τ cs σ H d v τ' Q R rs rv hb h => ?_⟩
  cases d with
  | tup ds =>
    have hb : bindP q ds τ = some τ' := hb
    obtain ⟨a, xs, e, s, r⟩ := rv
    exact ⟨a, xs, e, SqT.of (R.b _ _ s), by rw [r.length]; exact hl ds τ τ' hb, r1 wd F τ cs σ H ds xs τ' Q R rs r hb h⟩
  | _ => cases hb

/-! ### statements -/
variable {s s1 s2 : S} {st : Stmt} {sts : List Stmt}
theorem jss_nil : JSs X W [] .skip := ⟨_, pss_nil, fun wd F τ cs σ H P Q R rs h q => q.nx wd τ cs σ H (Wd.le.refl _) R rs h⟩
theorem jss_one (h : JS X W st s) : JSs X W [st] s := by
  obtain ⟨t, p1, r1⟩ := h
  exact ⟨_, pss_one p1, r1⟩
theorem ref_seq {t1 t2 : TS} (r1 : RefS X W t1 s1) (r2 : RefS X W t2 s2) : RefS X W (tSeq t1 t2) (.seq s1 s2) := by
  intro wd F τ cs σ H P Q R rs h q
  refine r1 wd F τ cs σ H _ _ R rs h ⟨fun wd1 τ1 c1 σ1 H1 l1 R1 rs1 h1 => ?_, q.bk, q.ct, q.rt, q.ex⟩
  exact r2 wd1 F τ1 c1 σ1 H1 P Q R1 rs1 h1 (q.mono l1)
theorem jss_cons (h1 : JS X W st s1) (h2 : JSs X W sts s2) : JSs X W (st :: sts) (.seq s1 s2) := by
  obtain ⟨t1, p1, r1⟩ := h1
  obtain ⟨t2, p2, r2⟩ := h2
  exact ⟨_, pss_cons p1 p2, ref_seq r1 r2⟩
/-- a dict's cell becomes known: it is locked for good -/
theorem Rl.freezeD {K : PySem.W.Frag} {wd : Wd} {F H : Hp} {cs : Cs} (R : Rl K wd F cs H) {n : Nat} {ob : Ob} {a : Addr} {u : HO} (hn : cs n = some ob) (ha : wd.r n = some a) (hH : H a = some u) (o : Obj) :
    wd.le ⟨upd wd.B a (.frz o u), wd.r, wd.k⟩ ∧ Rl K ⟨upd wd.B a (.frz o u), wd.r, wd.k⟩ F (del cs n) (upd H a (.frz o u)) := by
  obtain ⟨a', u', e1, e2, e3, e4, e5⟩ := R.cell n _ hn
  have ea : a' = a := Option.some.inj (e1.symm.trans ha)
  subst ea
  have le : wd.le ⟨upd wd.B a' (.frz o u), wd.r, wd.k⟩ := ⟨Ex.new e2, fun _ _ h => h⟩
  refine ⟨le, ⟨fun b w e => ?_, fun b w e => ?_, fun b w e => ?_, R.inj, fun m w e => ?_, fun m b e => ?_, R.top, R.rf, R.fe, fun p hp => ?_, R.btNew (fun q z => by cases z)⟩⟩
  · have e : upd wd.B a' (.frz o u) b = some w := e
    by_cases h : b = a'
    · subst h
      rw [upd_same] at e ⊢
      exact e
    · rw [upd_ne h] at e ⊢
      exact R.b b w e
  · rw [upd_ne (ne_of_none e e3)]
    exact R.f b w e
  · have e : upd wd.B a' (.frz o u) b = some w := e
    by_cases h : b = a'
    · subst h
      exact e3
    · rw [upd_ne h] at e
      exact R.bf b w e
  · unfold del at e
    by_cases hm : m = n
    · rw [if_pos hm] at e
      cases e
    · rw [if_neg hm] at e
      obtain ⟨b, x, f1, f2, f3, f4, f5⟩ := R.cell m w e
      have ne : b ≠ a' := fun z => hm (R.inj m n a' (by rw [← z]; exact f1) e1)
      exact ⟨b, x, f1, (upd_ne ne).trans f2, f3, (upd_ne ne).trans f4, f5.mono le⟩
  · by_cases h : b = a'
    · subst h
      exact ⟨_, upd_same, fun q z => by cases z⟩
    · obtain ⟨w, hw, hk⟩ := R.ran m b e
      exact ⟨w, by rw [upd_ne h]; exact hw, hk⟩
  · obtain ⟨ps, h1, h2, h3⟩ := R.tab p hp
    have ne : p.1 ≠ a' := fun z => by
      rw [z, e4] at h1
      exact e5.notbl ps (Option.some.inj h1)
    exact ⟨ps, by rw [upd_ne ne]; exact h1, h2, fun pos cv e => let ⟨c, e1, e2⟩ := h3 pos cv e; ⟨c, e1, le.B _ _ e2⟩⟩
def tOrLock (t : TS) : TS := fun D σ H => t D σ H ∨ ∃ d u, H d = some u ∧ Mut (some u) ∧ ∀ od, t D σ (upd H d (.frz od u))
theorem pss_orLock {X : Cx} {sts : List Stmt} {t : TS} (h : PSs X sts t) : PSs X sts (tOrLock t) := by
  refine ⟨fun pins s σ H D I hw => ?_⟩
  rcases hw with hw | ⟨d, u, hd, mu, hw⟩
  · exact h.run pins s σ H D I hw
  · obtain ⟨od, I1⟩ := I.lock hd mu
    exact h.run pins s σ _ D I1 (hw od)
/-- a list or a dict in a slot becomes a tree: no statement of the program's -/
theorem jss_frz (i : Nat) (h : JSs X W sts s) : JSs X W sts (.seq (.frz i) s) := by
  obtain ⟨t, p1, r1⟩ := h
  refine ⟨_, pss_orLock p1, fun wd F τ cs σ H P Q R rs h q => ?_⟩
  have h : (match getV τ i with
    | some (.ref n) => match cs n with
      | some (.lst xs) => wpS s (τ.set i (some (.lst xs))) (del cs n) P
      | some (.dic ks vs) => wpS s (τ.set i (some (.dic ks vs))) (del cs n) P
      | some (.dit l) => wpS s (τ.set i (some (.dic (l.map fun p => .tup (p.1.map kD)) (l.map (·.2))))) (del cs n) P
      | _ => False
    | _ => False) := h
  cases e : getV τ i with
  | none => rw [e] at h; exact h.elim
  | some d =>
    rw [e] at h
    cases d with
    | ref n =>
      have h : (match cs n with
        | some (.lst xs) => wpS s (τ.set i (some (.lst xs))) (del cs n) P
        | some (.dic ks vs) => wpS s (τ.set i (some (.dic ks vs))) (del cs n) P
        | some (.dit l) => wpS s (τ.set i (some (.dic (l.map fun p => .tup (p.1.map kD)) (l.map (·.2))))) (del cs n) P
        | _ => False) := h
      cases ec : cs n with
      | none => rw [ec] at h; exact h.elim
      | some o =>
        rw [ec] at h
        cases o with
        | lst xs =>
          obtain ⟨v, hv, a, ea, ev⟩ := rs.at_ i _ e
          obtain ⟨wd', a', le, ha', R', rp⟩ := R.freeze ec
          have : a' = a := Option.some.inj (ha'.symm.trans ea)
          subst this
          subst ev
          exact .inl (r1 wd' F _ _ σ H P Q R' ((rs.mono le).swap i hv rp) h (q.mono le))
        | dic ks vs =>
          obtain ⟨v, hv, a, ea, ev⟩ := rs.at_ i _ e
          obtain ⟨a', u, f1, f2, f3, f4, kvs, f5, f6, f7⟩ := R.cell n _ ec
          have : a' = a := Option.some.inj (f1.symm.trans ea)
          subst this
          subst ev f5
          refine .inr ⟨a', _, f4, trivial, fun od => ?_⟩
          obtain ⟨le, R'⟩ := R.freezeD ec ea f4 od
          exact r1 _ F _ _ σ _ P Q R' ((rs.mono le).swap i hv (show Rp X.K _ (.dic ks vs) (.ref a') from ⟨a', od, rfl, .inl ⟨kvs, upd_same, f6, RpL.mono le _ _ f7⟩⟩)) h (q.mono le)
        | dit l =>
          obtain ⟨v, hv, a, ea, ev⟩ := rs.at_ i _ e
          obtain ⟨a', u, f1, f2, f3, f4, kvs, f5, f6, f7⟩ := R.cell n _ ec
          have : a' = a := Option.some.inj (f1.symm.trans ea)
          subst this
          subst ev f5
          refine .inr ⟨a', _, f4, trivial, fun od => ?_⟩
          obtain ⟨le, R'⟩ := R.freezeD ec ea f4 od
          have ek : (l.map fun p => D.tup (p.1.map kD)) = kvs.map fun p => D.tup (p.1.map kD) := by
            have := congrArg (List.map fun k : List (Sum Int Str) => D.tup (k.map kD)) f6
            rw [List.map_map, List.map_map] at this
            exact this
          exact r1 _ F _ _ σ _ P Q R' ((rs.mono le).swap i hv (show Rp X.K _ (.dic (l.map fun p => .tup (p.1.map kD)) (l.map (·.2))) (.ref a') from ⟨a', od, rfl, .inr (.inl ⟨kvs, upd_same, ek, RpL.mono le _ _ f7⟩)⟩)) h (q.mono le)
        | _ => exact h.elim
    | _ => exact h.elim
theorem js_exp (h : JE X W e ce) (hs : swapsWith e none pos.line X.env = pure false := by rfl) : JS X W (.Expr e pos) (.exp ce) := by
  obtain ⟨t, p1, r1⟩ := h
  refine ⟨_, ps_expr p1 hs, fun wd F τ cs σ H P Q R rs h q => ?_⟩
  exact r1 wd F τ cs σ H _ _ _ R rs h (fun wd1 d c1 v H1 l1 R1 rv h1 => q.nx wd1 τ c1 σ H1 l1 R1 (rs.mono l1) h1) (q.xok rs)
theorem js_ret (h : JE X W e ce) : JS X W (.Return (some e) pos) (.ret ce) := by
  obtain ⟨t, p1, r1⟩ := h
  refine ⟨_, ps_ret p1, fun wd F τ cs σ H P Q R rs h q => ?_⟩
  exact r1 wd F τ cs σ H _ _ _ R rs h (fun wd1 d c1 v H1 l1 R1 rv h1 => q.rt wd1 d c1 v H1 l1 R1 rv h1) (q.xok rs)
theorem js_if {xs ys : List Stmt} (h : JT X W c cc) (h1 : JSs X W xs s1) (h2 : JSs X W ys s2) : JS X W (.If c xs ys pos) (.ite cc s1 s2) := by
  obtain ⟨t0, p0, r0⟩ := h
  obtain ⟨t1, p1, r1⟩ := h1
  obtain ⟨t2, p2, r2⟩ := h2
  refine ⟨_, ps_if p0 p1 p2, fun wd F τ cs σ H P Q R rs h q => ?_⟩
  refine r0 wd F τ cs σ H _ _ _ R rs h (fun wd1 d c1 H1 l1 R1 h1 => ?_) (q.xok rs)
  cases d with
  | bl k =>
    refine ⟨k, rfl, ?_⟩
    cases k with
    | true => exact r1 wd1 F τ c1 σ H1 P Q R1 (rs.mono l1) h1 (q.mono l1)
    | false => exact r2 wd1 F τ c1 σ H1 P Q R1 (rs.mono l1) h1 (q.mono l1)
  | _ => exact h1.elim
theorem js_set (i : Nat) {x : Str} {p' : Pos} (hN : X.N.Nodup) (hi : X.N[i]? = some x) (hx : Loc X.env.scope x) (he : JE X W e ce) (hs : swapsWith e (some (.Name x p')) pos.line X.env = pure false := by rfl) (hf : X.fn x = true ∨ X.env.scope.names.lookup x = some .local := by first | exact .inl rfl | exact .inr rfl | assumption) :
    JS X W (.Assign [.Name x p'] e pos) (.asg (.nm i) ce) := by
  obtain ⟨t, p1, r1⟩ := he
  refine ⟨_, ps_set hN hi hx p1 hs hf, fun wd F τ cs σ H P Q R rs h q => ?_⟩
  exact r1 wd F τ cs σ H _ _ _ R rs h (fun wd1 d c1 v H1 l1 R1 rv h1 => q.nx wd1 _ c1 _ H1 l1 R1 ((rs.mono l1).set i rv) h1) (q.xok rs)
theorem js_asg {tg : Expr} {pt : Pat} {own : List Nat} (he : JE X W e ce) (hg : JG X tg pt own) (hs : swapsWithSole [tg] e pos.line X.env = pure false := by rfl) (hw : swappedStores [tg] e X.env = pure none := by rfl)
    (h1 : (assignEach [tg] X.env).map (·.2) = [assign tg X.env] := by rfl) : JS X W (.Assign [tg] e pos) (.asg pt ce) := by
  obtain ⟨t, p1, r1⟩ := he
  obtain ⟨g, p2, r2⟩ := hg
  refine ⟨_, ps_asg p1 p2 hs hw h1, fun wd F τ cs σ H P Q R rs h q => ?_⟩
  refine r1 wd F τ cs σ H _ _ _ R rs h (fun wd1 d c1 v H1 l1 R1 rv h1 => ?_) (q.xok rs)
  cases eb : bindP pt [d] τ with
  | none => rw [eb] at h1; exact h1.elim
  | some τ' =>
    rw [eb] at h1
    exact r2 wd1 F τ c1 σ H1 d v τ' _ R1 (rs.mono l1) rv eb fun σ' rs' _ => q.nx wd1 τ' c1 σ' H1 l1 R1 rs' h1
theorem js_par (i j : Nat) {x y : Str} {px py pt : Pos} {kt k2 pt2} (hc : X.calm = true) (hN : X.N.Nodup) (hi : X.N[i]? = some x) (hj : X.N[j]? = some y) (hij : i ≠ j)
    (hx : X.env.scope.names.lookup x = some .local) (hy : X.env.scope.names.lookup y = some .local) (ha : JE X W a ca) (hb : JE X W b cb)
    (hw : swappedStores [.Tuple [.Name x px, .Name y py] kt pt] (.Tuple [a, b] k2 pt2) X.env = pure (some [x, y]))
    (h1 : starEach [a, b] X.env = (false, eval a X.env) :: starEach [b] X.env := by rfl) (h2 : starEach [b] X.env = (false, eval b X.env) :: starEach [] X.env := by rfl)
    (hs : swapsWithSole [.Tuple [.Name x px, .Name y py] kt pt] (.Tuple [a, b] k2 pt2) pos.line X.env = pure false := by rfl) :
    JS X W (.Assign [.Tuple [.Name x px, .Name y py] kt pt] (.Tuple [a, b] k2 pt2) pos) (.asg (.tup (.cons (.nm i) (.cons (.nm j) .nil))) (.app sTup (.cons ca (.cons cb .nil)))) := by
  obtain ⟨ta, p1, r1⟩ := ja_cons ha (ja_cons hb ja_nil h2) h1
  refine ⟨_, ps_par hc hN hi hj hij hx hy p1 hw hs, fun wd F τ cs σ H P Q R rs h q => ?_⟩
  have h : wpEs (.cons ca (.cons cb .nil)) τ cs (fun ds cs' => sTup ds cs' (fun d c2 => match bindP (.tup (.cons (.nm i) (.cons (.nm j) .nil))) [d] τ with
    | some σ' => P.nx σ' c2
    | none => False) (fun x c2 => P.ex x τ c2)) (fun x c2 => P.ex x τ c2) := h
  refine r1 wd F τ cs σ H _ _ _ R rs h (fun wd1 ds c1 vs H1 l1 R1 rv h1 => ?_) (q.xok rs)
  have h1 := h1.2
  match ds, rv, h1 with
  | [d1, d2], rv, h1 =>
    obtain ⟨v, w, e, rv1, rv2⟩ := rv.two
    exact ⟨v, w, e, q.nx wd1 _ c1 _ H1 l1 R1 (((rs.mono l1).set i rv1).set j rv2) h1⟩
  | [], _, h1 => exact h1.elim
  | [_], _, h1 => exact h1.elim
  | _ :: _ :: _ :: _, _, h1 => exact h1.elim
end
end G

/-! GLoop: while, for, comprehensions, calls of defs. -/
namespace G
open PySem PySem.Spec L2
open Evl (Ex)
section
variable {X : Cx} {W : WX} {pos : Pos} {a b c e : Expr} {ca cb cc ce : E} {K : PySem.W.Frag} {p : Pos} {rest : List Expr} {s s1 s2 : S} {st : Stmt} {sts : List Stmt}
/-! ### while -/
/-! ### what is walked -/
/-- J yields the items, as long as the guard holds -/
structure ItOk (X : Cx) (wd : Wd) (F : Hp) (items : List D) (grd : Cs → Prop) (J : It) : Prop where
  go : ∀ wd' F' cs H i d, wd.le wd' → Rl X.K wd' F' cs H → grd cs → items[i]? = some d → J.go i H ∧ ∀ x H', J.yld i H x H' → ∃ wd'', wd'.le wd'' ∧ Rl X.K wd'' F' cs H' ∧ Rp X.K wd'' d x
  stop : ∀ wd' F' cs H, wd.le wd' → Rl X.K wd' F' cs H → grd cs → J.stop items.length H
def RefI (X : Cx) (W : WX) (wi : TI) (isp : ISpec) (as : Es) : Prop := ∀ wd F τ cs σ H (R' : List D → (Cs → Prop) → Cs → Prop) (PX : KX) (R : It → Hp → Prop), Rl X.K wd F cs H → RS X.K wd τ σ →
  wpEs as τ cs (fun ds c1 => isp ds c1 fun items grd => R' items grd c1) PX → (∀ wd1 items grd c1 J H1, wd.le wd1 → Rl X.K wd1 F c1 H1 → ItOk X wd1 F items grd J → R' items grd c1 → R J H1) → XOk X W wd F σ PX → wi σ H R
def JI (X : Cx) (W : WX) (tg iter : Expr) (isp : ISpec) (as : Es) : Prop := ∃ wi, PI X tg iter wi ∧ RefI X W wi isp as
theorem js_for {tg iter : Expr} {pt : Pat} {own : List Nat} {isp : ISpec} {as : Es} (hp : PassesOwn (model X.prog X.w) X.A X.env X.xe) (hc : X.calm = true) (hi : JI X W tg iter isp as) (hg : JG X tg pt own) (hb : JSs X W sts s1)
    (hs : ∀ x, foldedSetIterable iter X.env x = pure x := by intro _; rfl) : JS X W (.For tg iter sts [] pos) (.fr pt isp as s1) := by
  obtain ⟨wi, p0, r0⟩ := hi
  obtain ⟨g, p1, r1⟩ := hg
  obtain ⟨t, p2, r2⟩ := hb
  refine ⟨_, ps_for hp hc p0 p1 p2 hs, fun wd F τ cs σ H P Q R rs h q => ?_⟩
  refine r0 wd F τ cs σ H (fun items grd c1 => forL pt grd (wpS s1) P items τ c1) _ _ R rs h (fun wd1 items grd c1 J H1 l1 R1 it h1 => ?_) (q.xok rs)
  refine ⟨fun i m σ' H' => ∃ wd' τ' cs', wd1.le wd' ∧ Rl X.K wd' F cs' H' ∧ RS X.K wd' τ' σ' ∧ m = items.length - i ∧ i ≤ items.length ∧ forL pt grd (wpS s1) P (items.drop i) τ' cs', ⟨items.length, wd1, τ, c1, Wd.le.refl _, R1, rs.mono l1, by simp, Nat.zero_le _, h1⟩, ?_⟩
  rintro i m σ' H' ⟨wd', τ', cs', l', R', rs', em, hle, h'⟩
  by_cases hi : i < items.length
  · have ed : items.drop i = items[i] :: items.drop (i + 1) := List.drop_eq_getElem_cons hi
    rw [ed] at h'
    obtain ⟨hg, h'⟩ := h'
    obtain ⟨g0, gy⟩ := it.go wd' F cs' H' i items[i] l' R' hg (List.getElem?_eq_getElem hi)
    cases eb : bindP pt [items[i]] τ' with
    | none => rw [eb] at h'; exact h'.elim
    | some τ1 =>
      rw [eb] at h'
      refine .inr ⟨g0, fun σ2 H2 => ∃ wd' τ' cs', wd1.le wd' ∧ Rl X.K wd' F cs' H2 ∧ RS X.K wd' τ' σ2 ∧ forL pt grd (wpS s1) P (items.drop (i + 1)) τ' cs', fun σ2 H2 ⟨wd2, τ2, c2, l2, R2, rs2, h2⟩ => ⟨items.length - (i + 1), by omega, wd2, τ2, c2, l2, R2, rs2, rfl, hi, h2⟩, fun x H2 y => ?_⟩
      obtain ⟨wd2, l2, R2, rv⟩ := gy x H2 y
      refine r1 wd2 F τ' cs' σ' H2 items[i] x τ1 _ R2 (rs'.mono l2) rv eb fun σ3 rs3 _ => ?_
      have l12 := l'.trans l2
      have q2 := q.mono (l1.trans l12)
      exact r2 wd2 F τ1 cs' σ3 H2 _ _ R2 rs3 h' ⟨fun wd4 τ4 c4 σ4 H4 l4 R4 rs4 h4 => ⟨wd4, τ4, c4, l12.trans l4, R4, rs4, h4⟩, q2.nx, fun wd4 τ4 c4 σ4 H4 l4 R4 rs4 h4 => ⟨wd4, τ4, c4, l12.trans l4, R4, rs4, h4⟩, q2.rt, q2.ex⟩
  · have ei : i = items.length := by omega
    subst ei
    rw [List.drop_length] at h'
    exact .inl ⟨it.stop wd' F cs' H' l' R' h'.1, q.nx wd' τ' cs' σ' H' (l1.trans l') R' rs' h'.2⟩
end
end G

/-! GIter: lists, tuples, ranges, zips walked; comprehensions. -/
namespace G
open PySem PySem.Spec L2
open Evl (Ex)
section
variable {X : Cx} {W : WX} {pos : Pos} {a b c e : Expr} {ca cb cc ce : E} {K : PySem.W.Frag} {p : Pos} {rest : List Expr} {s s1 s2 : S} {st : Stmt} {sts : List Stmt}
/-- a list that stays as the guard says -/
theorem Rl.staysL {wd : Wd} {F H : Hp} {cs : Cs} (R : Rl K wd F cs H) {d : D} {v : V} {xs : List D} (r : Rp K wd d v) (h : G.getL d cs = some xs) :
    ∃ a, v = .ref a ∧ ∀ wd' F' cs' H', wd.le wd' → Rl K wd' F' cs' H' → grdL d cs cs' → ∃ vs, H' a = some (.lst vs) ∧ RpL K wd' xs vs := by
  obtain ⟨a, vs, e, s, q⟩ := R.getL r h
  refine ⟨a, e, fun wd' F' cs' H' l R' g => ?_⟩
  have h' : G.getL d cs' = some xs := by
    cases d with
    | ref n =>
      have g : cs' n = cs n := g
      unfold G.getL at h ⊢
      simp only [g]
      exact h
    | lst ys => exact h
    | _ => cases h
  obtain ⟨a', vs', e', s', q'⟩ := R'.getL (r.mono l) h'
  rw [e] at e'
  cases e'
  exact ⟨vs', s', q'⟩
theorem Rl.staysT {wd : Wd} {F H : Hp} {cs : Cs} (R : Rl K wd F cs H) {v : V} {xs : List D} (r : Rp K wd (.tup xs) v) :
    ∃ a, v = .ref a ∧ ∀ wd' F' cs' H', wd.le wd' → Rl K wd' F' cs' H' → ∃ vs, SqT K H' a vs ∧ RpL K wd' xs vs := by
  obtain ⟨a, vs, e, s, q⟩ := r
  exact ⟨a, e, fun wd' F' cs' H' l R' => ⟨vs, SqT.of ((l.B.trans R'.b) _ _ s), RpL.mono l _ _ q⟩⟩
theorem getQ_cases {d : D} {cs : Cs} {xs : List D} (h : getQ d cs = some xs) : d = .tup xs ∨ getL d cs = some xs := by
  cases d with
  | tup ys => cases h; exact .inl rfl
  | lst ys => exact .inr h
  | ref n => exact .inr h
  | _ => cases h
/-- over a list or a tuple -/
def iSeqA (K : PySem.W.Frag) (tl : TE) : TI := fun σ H R => tl σ H fun x H1 => ∃ a, x = .ref a ∧ (((∃ xs, SqL K H1 a xs) ∧ R (Itl K a) H1) ∨ ((∃ xs, SqT K H1 a xs) ∧ R (Itt K a) H1))
theorem pi_seqA {tg l : Expr} {tl : TE} (hl : PE X l tl) : PI X tg l (iSeqA X.K tl) := by
  refine ⟨fun pins s σ H R I h => thn (hl.run pins s σ H _ I h) fun v s1 z => ?_⟩
  obtain ⟨x, H1, I1, rx, a, ex, q1⟩ := z
  subst ex
  obtain rfl : v = Value.ref a := rx
  have fresh : ∀ b ∈ [s1.heap.objs.size], FpOk X pins H1 b := fun b hb => by
    rw [List.mem_singleton.mp hb]
    exact I1.fpOk (Nat.le_refl _) (I1.hok.fresh (Nat.le_refl _))
  rcases q1 with ⟨⟨xs, hq⟩, q⟩ | ⟨⟨xs, hq⟩, q⟩
  · obtain ⟨its, rv, pl, hz⟩ := I1.list hq
    exact wpAny_pyIter_list pl.isList ⟨s1.heap.objs.size, [s1.heap.objs.size], _, _, H1, rfl, I1.kept (t' := s1.toks) fun b o e => Heap.get?_push_of_some _ e, turn_list a _, ⟨_, Heap.get?_push_size _ rfl, rfl, rfl⟩, fresh, q⟩
  · obtain ⟨its, rv, pl, hz⟩ := I1.tuple hq
    exact wpAny_pyIter_tuple (show s1.heap.IsTuple a its.toArray from pl) ⟨s1.heap.objs.size, [s1.heap.objs.size], _, _, H1, rfl, I1.kept (t' := s1.toks) fun b o e => Heap.get?_push_of_some _ e, turn_tuple a _, ⟨_, Heap.get?_push_size _ rfl, rfl, rfl⟩, fresh, q⟩
theorem itOk_list {wd : Wd} {F : Hp} {xs : List D} {grd : Cs → Prop} {a : Addr} (h : ∀ wd' F' cs' H', wd.le wd' → Rl X.K wd' F' cs' H' → grd cs' → ∃ vs, H' a = some (.lst vs) ∧ RpL X.K wd' xs vs) : ItOk X wd F xs grd (Itl X.K a) := by
  refine ⟨fun wd' F' cs H i d l R g hd => ?_, fun wd' F' cs H l R g => ?_⟩
  · obtain ⟨vs, hv, r⟩ := h wd' F' cs H l R g
    obtain ⟨v, h1, h2⟩ := r.get hd
    refine ⟨⟨vs, v, SqL.of hv, h1⟩, fun x H' ⟨e, y⟩ => ?_⟩
    subst e
    have := y vs (SqL.of hv)
    rw [h1] at this
    cases this
    exact ⟨wd', Wd.le.refl _, R, h2⟩
  · obtain ⟨vs, hv, r⟩ := h wd' F' cs H l R g
    exact ⟨vs, SqL.of hv, by rw [r.length]; exact Nat.le_refl _⟩
theorem itOk_tup {wd : Wd} {F : Hp} {xs : List D} {grd : Cs → Prop} {a : Addr} (h : ∀ wd' F' cs' H', wd.le wd' → Rl X.K wd' F' cs' H' → ∃ vs, SqT X.K H' a vs ∧ RpL X.K wd' xs vs) : ItOk X wd F xs grd (Itt X.K a) := by
  refine ⟨fun wd' F' cs H i d l R g hd => ?_, fun wd' F' cs H l R g => ?_⟩
  · obtain ⟨vs, hv, r⟩ := h wd' F' cs H l R
    obtain ⟨v, h1, h2⟩ := r.get hd
    refine ⟨⟨vs, v, hv, h1⟩, fun x H' ⟨e, y⟩ => ?_⟩
    subst e
    have := y vs hv
    rw [h1] at this
    cases this
    exact ⟨wd', Wd.le.refl _, R, h2⟩
  · obtain ⟨vs, hv, r⟩ := h wd' F' cs H l R
    exact ⟨vs, hv, by rw [r.length]; exact Nat.le_refl _⟩
theorem ji_seq {tg : Expr} (h : JE X W e ce) : JI X W tg e iSeq (.cons ce .nil) := by
  obtain ⟨te, p1, r1⟩ := h
  refine ⟨_, pi_seqA p1, fun wd F τ cs σ H R' PX Q R rs h q x => ?_⟩
  refine r1 wd F τ cs σ H _ PX _ R rs h (fun wd1 d c1 v H1 l1 R1 rv h1 => ?_) x
  have h1 : (match getQ d c1 with
    | some xs => R' xs (grdL d c1) c1
    | none => False) := h1
  cases eq : getQ d c1 with
  | none => rw [eq] at h1; exact h1.elim
  | some xs =>
    rw [eq] at h1
    rcases getQ_cases eq with ed | el
    · subst ed
      obtain ⟨a, ev, st⟩ := R1.staysT rv
      obtain ⟨vs, hv, _⟩ := st wd1 F c1 H1 (Wd.le.refl _) R1
      exact ⟨a, ev, .inr ⟨⟨vs, hv⟩, q wd1 xs _ c1 _ H1 l1 R1 (itOk_tup st) h1⟩⟩
    · obtain ⟨a, ev, st⟩ := R1.staysL rv el
      obtain ⟨vs, hv, _⟩ := st wd1 F c1 H1 (Wd.le.refl _) R1 (by unfold grdL; split <;> trivial)
      exact ⟨a, ev, .inl ⟨⟨vs, SqL.of hv⟩, q wd1 xs _ c1 _ H1 l1 R1 (itOk_list st) h1⟩⟩
theorem itOk_rng {wd : Wd} {F : Hp} (a b : Int) : ItOk X wd F (rgD a b) (fun _ => True) (Itr a (b - a).toNat) := by
  have hl : (rgD a b).length = (b - a).toNat := by unfold rgD; simp
  refine ⟨fun wd' F' cs H i d l R g hd => ?_, fun wd' F' cs H l R g => ?_⟩
  · have hi : i < (rgD a b).length := (List.getElem?_eq_some_iff.mp hd).1
    refine ⟨by show i < _; omega, fun x H' ⟨e, y⟩ => ?_⟩
    subst e y
    refine ⟨wd', Wd.le.refl _, R, ?_⟩
    unfold rgD at hd
    rw [List.getElem?_map, List.getElem?_range (by omega)] at hd
    cases hd
    rfl
  · show (b - a).toNat ≤ _
    rw [hl]
    exact Nat.le_refl _
theorem iRng1_inv {ds : List D} {cs : Cs} {R : List D → (Cs → Prop) → Prop} (h : iRng1 ds cs R) : ∃ j, ds = [.int j] ∧ -(2 ^ 62) ≤ j ∧ j < 2 ^ 62 ∧ R (rgD 0 j) (fun _ => True) := by
  unfold iRng1 at h
  split at h
  · exact ⟨_, rfl, h.1, h.2.1, h.2.2⟩
  · exact h.elim
theorem iZip_inv {ds : List D} {cs : Cs} {R : List D → (Cs → Prop) → Prop} (h : iZip ds cs R) : ∃ x y, ds = [x, y] ∧ ((∃ xs ys, x = .tup xs ∧ y = .tup ys ∧ R (zipD xs ys) (fun _ => True)) ∨ (∃ xs ys, getL x cs = some xs ∧ getL y cs = some ys ∧ R (zipD xs ys) (fun c => grdL x cs c ∧ grdL y cs c))) := by
  unfold iZip at h
  split at h
  · rename_i x y
    refine ⟨x, y, rfl, ?_⟩
    split at h
    · exact .inl ⟨_, _, rfl, rfl, h⟩
    · split at h
      · rename_i h1 h2
        exact .inr ⟨_, _, h1, h2, h⟩
      · exact h.elim
  · exact h.elim
theorem ji_rng1 {tg : Expr} (hg : Gl X "range") (hm : X.mg "range" = none) (h : JE X W a ca) (h1 : starEach [a] X.env = [(false, eval a X.env)] := by rfl) : JI X W tg (.Call (.Name "range" p) [a] [] pos) iRng1 (.cons ca .nil) := by
  obtain ⟨ta, p1, r1⟩ := ja_cons h ja_nil h1
  refine ⟨_, pi_range1 hg hm p1 h1, fun wd F τ cs σ H R' PX Q R rs h q x => ?_⟩
  refine r1 wd F τ cs σ H _ PX _ R rs h (fun wd1 ds c1 vs H1 l1 R1 rv h1 => ?_) x
  obtain ⟨j, ed, b1, b2, h2⟩ := iRng1_inv h1
  subst ed
  obtain ⟨v, e, rv⟩ := rv.one
  refine ⟨j, by rw [e, show v = _ from rv], b1, b2, ?_⟩
  have z := q wd1 (rgD 0 j) _ c1 (Itr 0 (j - 0).toNat) H1 l1 R1 (itOk_rng 0 j) h2
  rw [Int.sub_zero] at z
  exact z
theorem zipD_get : ∀ {xs ys : List D} {i : Nat} {d : D}, (zipD xs ys)[i]? = some d → ∃ x y, xs[i]? = some x ∧ ys[i]? = some y ∧ d = .tup [x, y]
  | [], _, _, _, h => by simp [zipD] at h
  | _ :: _, [], _, _, h => by simp [zipD] at h
  | x :: xs, y :: ys, 0, d, h => by
    simp [zipD] at h
    exact ⟨x, y, rfl, rfl, h.symm⟩
  | x :: xs, y :: ys, i + 1, d, h => by
    obtain ⟨x', y', h1, h2, h3⟩ := zipD_get (i := i) (d := d) (by simpa [zipD] using h)
    exact ⟨x', y', by simpa using h1, by simpa using h2, h3⟩
theorem zipD_len : ∀ (xs ys : List D), (zipD xs ys).length = min xs.length ys.length
  | [], _ => by simp [zipD]
  | _ :: _, [] => by simp [zipD]
  | x :: xs, y :: ys => by simp [zipD, zipD_len xs ys]
theorem ji_zip {tpos : Pos} {elts : List Expr} {kk : Nat} (hg : Gl X "zip") (hm : X.mg "zip" = none) (ha : JE X W a ca) (hb : JE X W b cb)
    (h1 : starEach [a, b] X.env = (false, eval a X.env) :: starEach [b] X.env := by rfl) (h2 : starEach [b] X.env = (false, eval b X.env) :: starEach [] X.env := by rfl) (hpl : (backTo pos (starEach [b] X.env)).any (·.1) = false := by rfl) :
    JI X W (.Tuple elts kk tpos) (.Call (.Name "zip" p) [a, b] [] pos) iZip (.cons ca (.cons cb .nil)) := by
  obtain ⟨ta, p1, r1⟩ := ja_cons ha (ja_cons hb ja_nil h2) h1
  refine ⟨_, RZ.pi_zipA hg hm p1 h1 hpl, fun wd F τ cs σ H R' PX Q R rs h q x => ?_⟩
  refine r1 wd F τ cs σ H _ PX _ R rs h (fun wd1 ds c1 vs H1 l1 R1 rv h1 => ?_) x
  obtain ⟨dx, dy, ed, h3⟩ := iZip_inv h1
  subst ed
  obtain ⟨v, w, e, rv1, rv2⟩ := rv.two
  rcases h3 with ⟨xs, ys, e1, e2, h3⟩ | ⟨xs, ys, ex, ey, h3⟩
  · subst e1 e2
    obtain ⟨a1, ea, sa⟩ := R1.staysT rv1
    obtain ⟨b1, eb, sb⟩ := R1.staysT rv2
    obtain ⟨ws, hw, _⟩ := sa wd1 F c1 H1 (Wd.le.refl _) R1
    obtain ⟨zs, hz, _⟩ := sb wd1 F c1 H1 (Wd.le.refl _) R1
    refine ⟨a1, b1, ws, zs, by rw [e, ea, eb], .inr ⟨hw, hz, q wd1 _ _ c1 _ H1 l1 R1 ⟨fun wd' F' cs' H' i d l R g hd => ?_, fun wd' F' cs' H' l R g => ?_⟩ h3⟩⟩
    · obtain ⟨x, y, hx, hy, ed⟩ := zipD_get hd
      obtain ⟨ws, hw, rw'⟩ := sa wd' F' cs' H' l R
      obtain ⟨zs, hz, rz⟩ := sb wd' F' cs' H' l R
      obtain ⟨u, hu, ru⟩ := rw'.get hx
      obtain ⟨t, ht, rt⟩ := rz.get hy
      refine ⟨⟨ws, zs, u, t, hw, hz, hu, ht⟩, fun v' H2 ⟨T, x', y', ev, hT, eH, f1, f2⟩ => ?_⟩
      have e1 := f1 ws hw
      have e2 := f2 zs hz
      rw [hu] at e1
      rw [ht] at e2
      cases e1
      cases e2
      subst ev eH ed
      obtain ⟨wd'', l2, R2, r2⟩ := R.tup (ds := [x, y]) hT ⟨u, [t], rfl, ru, t, [], rfl, rt, rfl⟩
      exact ⟨wd'', l2, R2, r2⟩
    · obtain ⟨ws, hw, rw'⟩ := sa wd' F' cs' H' l R
      obtain ⟨zs, hz, rz⟩ := sb wd' F' cs' H' l R
      refine ⟨ws, zs, hw, hz, ?_⟩
      rw [zipD_len, rw'.length, rz.length]
      omega
  · obtain ⟨a1, ea, sa⟩ := R1.staysL rv1 ex
    obtain ⟨b1, eb, sb⟩ := R1.staysL rv2 ey
    have g0 : ∀ d : D, grdL d c1 c1 := fun d => by unfold grdL; split <;> trivial
    obtain ⟨ws, hw, _⟩ := sa wd1 F c1 H1 (Wd.le.refl _) R1 (g0 _)
    obtain ⟨zs, hz, _⟩ := sb wd1 F c1 H1 (Wd.le.refl _) R1 (g0 _)
    refine ⟨a1, b1, ws, zs, by rw [e, ea, eb], .inl ⟨SqL.of hw, SqL.of hz, q wd1 _ _ c1 _ H1 l1 R1 ⟨fun wd' F' cs' H' i d l R g hd => ?_, fun wd' F' cs' H' l R g => ?_⟩ h3⟩⟩
    · obtain ⟨x, y, hx, hy, ed⟩ := zipD_get hd
      obtain ⟨ws, hw, rw'⟩ := sa wd' F' cs' H' l R g.1
      obtain ⟨zs, hz, rz⟩ := sb wd' F' cs' H' l R g.2
      obtain ⟨u, hu, ru⟩ := rw'.get hx
      obtain ⟨t, ht, rt⟩ := rz.get hy
      refine ⟨⟨ws, zs, u, t, SqL.of hw, SqL.of hz, hu, ht⟩, fun v' H2 ⟨T, x', y', ev, hT, eH, f1, f2⟩ => ?_⟩
      have e1 := f1 ws (SqL.of hw)
      have e2 := f2 zs (SqL.of hz)
      rw [hu] at e1
      rw [ht] at e2
      cases e1
      cases e2
      subst ev eH ed
      obtain ⟨wd'', l2, R2, r2⟩ := R.tup (ds := [x, y]) hT ⟨u, [t], rfl, ru, t, [], rfl, rt, rfl⟩
      exact ⟨wd'', l2, R2, r2⟩
    · obtain ⟨ws, hw, rw'⟩ := sa wd' F' cs' H' l R g.1
      obtain ⟨zs, hz, rz⟩ := sb wd' F' cs' H' l R g.2
      refine ⟨ws, zs, SqL.of hw, SqL.of hz, ?_⟩
      rw [zipD_len, rw'.length, rz.length]
      omega
end
end G

/-! GComp: list comprehensions. -/
namespace G
open PySem PySem.Spec L2
open Evl (Ex)
section
variable {K : PySem.W.Frag} {wd : Wd} {F H : Hp} {cs : Cs} {q : Addr}
theorem fe_upd (fe : ∀ a o, F a = some o → NT o) (ys : List V) : ∀ a o, upd F q (.lst ys) a = some o → NT o := fun a o e => by
  by_cases h : a = q
  · subst h
    rw [upd_same] at e
    rw [← Option.some.inj e]
    exact NT.lst
  · rw [upd_ne h] at e
    exact fe a o e
theorem fe_back {o : HO} (fe : ∀ a u, upd F q o a = some u → NT u) (fn : F q = none) : ∀ a u, F a = some u → NT u := fun a u e => fe a u ((upd_ne (ne_of_none e fn)).trans e)
theorem Rl.fNew (R : Rl K wd F cs H) (hp : H q = none) (ys : List V) : Rl K wd (upd F q (.lst ys)) cs (upd H q (.lst ys)) := by
  have bn := R.bnone hp
  refine ⟨fun a u e => ?_, fun a u e => ?_, fun a u e => ?_, R.inj, fun n u e => ?_, fun n a e => ?_, R.top, fun n a e => ?_, fe_upd R.fe ys, R.tabNew hp (Ex.refl _), R.bt⟩
  · exact (upd_ne (ne_of_none e bn)).trans (R.b a u e)
  · by_cases h : a = q
    · subst h
      rw [upd_same] at e ⊢
      exact e
    · rw [upd_ne h] at e ⊢
      exact R.f a u e
  · exact (upd_ne (ne_of_none e bn)).trans (R.bf a u e)
  · obtain ⟨a, v, e1, e2, e3, e4, e5⟩ := R.cell n u e
    have ne : a ≠ q := ne_of_none e4 hp
    exact ⟨a, v, e1, e2, (upd_ne ne).trans e3, (upd_ne ne).trans e4, e5⟩
  · obtain ⟨u, hu, hn⟩ := R.ran n a e
    exact ⟨u, (upd_ne (ne_of_none hu hp)).trans hu, hn⟩
  · obtain ⟨u, hu, _⟩ := R.ran n a e
    exact (upd_ne (ne_of_none hu hp)).trans (R.rf n a e)
theorem Rl.fPut {o : HO} (R : Rl K wd (upd F q o) cs H) (ys : List V) : Rl K wd (upd F q (.lst ys)) cs (upd H q (.lst ys)) := by
  have fq : upd F q o q = some o := upd_same
  have fe : ∀ a u, upd F q (.lst ys) a = some u → NT u := fun a u e => by
    by_cases h : a = q
    · subst h
      rw [upd_same] at e
      rw [← Option.some.inj e]
      exact NT.lst
    · rw [upd_ne h] at e
      exact R.fe a u ((upd_ne h).trans e)
  have bn : wd.B q = none := by
    cases e : wd.B q with
    | none => rfl
    | some u =>
      have := R.bf q u e
      rw [fq] at this
      cases this
  refine ⟨fun a u e => ?_, fun a u e => ?_, fun a u e => ?_, R.inj, fun n u e => ?_, fun n a e => ?_, R.top, fun n a e => ?_, fe, fun p hp => ?_, R.bt⟩
  · exact (upd_ne (ne_of_none e bn)).trans (R.b a u e)
  · by_cases h : a = q
    · subst h
      rw [upd_same] at e ⊢
      exact e
    · rw [upd_ne h] at e ⊢
      exact R.f a u ((upd_ne h).trans e)
  · have h : a ≠ q := ne_of_none e bn
    exact (upd_ne h).trans ((upd_ne h).symm.trans (R.bf a u e))
  · obtain ⟨a, v, e1, e2, e3, e4, e5⟩ := R.cell n u e
    have ne : a ≠ q := fun z => by
      subst z
      rw [fq] at e3
      cases e3
    exact ⟨a, v, e1, e2, (upd_ne ne).trans ((upd_ne ne).symm.trans e3), (upd_ne ne).trans e4, e5⟩
  · obtain ⟨u, hu, hn⟩ := R.ran n a e
    by_cases h : a = q
    · subst h
      exact ⟨_, upd_same, fun z y => by cases y⟩
    · exact ⟨u, (upd_ne h).trans hu, hn⟩
  · have ne : a ≠ q := fun z => by
      subst z
      have := R.rf n _ e
      rw [fq] at this
      cases this
    exact (upd_ne ne).trans ((upd_ne ne).symm.trans (R.rf n a e))
  · obtain ⟨ps, h1, h2, h3⟩ := R.tab p hp
    have ne : q ≠ p.1 := R.notbl h1 (R.f q o fq) (R.fe q o fq).1
    exact ⟨ps, (upd_ne (Ne.symm ne)).trans h1, h2, h3⟩
theorem Rl.fTree {ds : List D} {vs : List V} (R : Rl K wd (upd F q (.lst vs)) cs H) (fn : F q = none) (r : RpL K wd ds vs) : ∃ wd', wd.le wd' ∧ Rl K wd' F cs H ∧ Rp K wd' (.lst ds) (.ref q) := by
  have fq : upd F q (.lst vs) q = some (.lst vs) := upd_same
  have hq : H q = some (.lst vs) := R.f q _ fq
  have bn : wd.B q = none := by
    cases e : wd.B q with
    | none => rfl
    | some u =>
      have := R.bf q u e
      rw [fq] at this
      cases this
  have le : wd.le ⟨upd wd.B q (.lst vs), wd.r, wd.k⟩ := ⟨Ex.new bn, fun _ _ h => h⟩
  refine ⟨_, le, ⟨fun a u e => ?_, fun a u e => ?_, fun a u e => ?_, R.inj, fun n u e => ?_, R.ran, R.top, fun n a e => ?_, fe_back R.fe fn, fun p hp => let ⟨ps, h1, h2, h3⟩ := R.tab p hp; ⟨ps, h1, h2, fun pos cv e => let ⟨c, e1, e2⟩ := h3 pos cv e; ⟨c, e1, le.B _ _ e2⟩⟩, R.btNew (fun q z => by cases z)⟩, q, vs, rfl, upd_same, RpL.mono le _ _ r⟩
  · have e : upd wd.B q (.lst vs) a = some u := e
    by_cases h : a = q
    · subst h
      rw [upd_same] at e
      rw [← e]
      exact hq
    · rw [upd_ne h] at e
      exact R.b a u e
  · have h : a ≠ q := ne_of_none e fn
    exact R.f a u ((upd_ne h).trans e)
  · have e : upd wd.B q (.lst vs) a = some u := e
    by_cases h : a = q
    · subst h
      exact fn
    · rw [upd_ne h] at e
      exact (upd_ne h).symm.trans (R.bf a u e)
  · obtain ⟨a, v, e1, e2, e3, e4, e5⟩ := R.cell n u e
    have ne : a ≠ q := fun z => by
      subst z
      rw [fq] at e3
      cases e3
    exact ⟨a, v, e1, (upd_ne ne).trans e2, (upd_ne ne).symm.trans e3, e4, e5.mono le⟩
  · by_cases h : a = q
    · rw [h]
      exact fn
    · exact (upd_ne h).symm.trans (R.rf n a e)
theorem Rl.fCell {ds : List D} {vs : List V} (R : Rl K wd (upd F q (.lst vs)) cs H) (fn : F q = none) (r : RpL K wd ds vs) : ∃ n wd', cs n = none ∧ wd.le wd' ∧ Rl K wd' F (put cs n (.lst ds)) H ∧ Rp K wd' (.ref n) (.ref q) := by
  have fq : upd F q (.lst vs) q = some (.lst vs) := upd_same
  have hq : H q = some (.lst vs) := R.f q _ fq
  have bn : wd.B q = none := by
    cases e : wd.B q with
    | none => rfl
    | some u =>
      have := R.bf q u e
      rw [fq] at this
      cases this
  have nr : ∀ n, wd.r n ≠ some q := fun n z => by
    have := R.rf n q z
    rw [fq] at this
    cases this
  have rk : wd.r wd.k = none := R.top wd.k (Nat.le_refl _)
  have le : wd.le ⟨wd.B, fun m => if m = wd.k then some q else wd.r m, wd.k + 1⟩ := ⟨Ex.refl _, fun m b e => by
    show (if m = wd.k then some q else wd.r m) = some b
    by_cases hm : m = wd.k
    · rw [hm, rk] at e
      cases e
    · rw [if_neg hm]
      exact e⟩
  have ck : cs wd.k = none := by
    cases z : cs wd.k with
    | none => rfl
    | some o =>
      obtain ⟨a, v, e1, _⟩ := R.cell _ _ z
      rw [rk] at e1
      cases e1
  refine ⟨wd.k, _, ck, le, ⟨R.b, fun a u e => R.f a u ((upd_ne (ne_of_none e fn)).trans e), fun a u e => ?_, fun n m a e1 e2 => ?_, fun m w e => ?_, fun m b e => ?_, fun m hm => ?_, fun m b e => ?_, fe_back R.fe fn, R.tab, R.bt⟩, q, if_pos rfl, rfl⟩
  · have h : a ≠ q := ne_of_none e bn
    exact (upd_ne h).symm.trans (R.bf a u e)
  · have e1 : (if n = wd.k then some q else wd.r n) = some a := e1
    have e2 : (if m = wd.k then some q else wd.r m) = some a := e2
    by_cases hn : n = wd.k
    · by_cases hm : m = wd.k
      · rw [hn, hm]
      · rw [if_pos hn] at e1
        rw [if_neg hm] at e2
        cases e1
        exact absurd e2 (nr m)
    · by_cases hm : m = wd.k
      · rw [if_pos hm] at e2
        rw [if_neg hn] at e1
        cases e2
        exact absurd e1 (nr n)
      · rw [if_neg hn] at e1
        rw [if_neg hm] at e2
        exact R.inj n m a e1 e2
  · by_cases hm : m = wd.k
    · subst hm
      have ew : Ob.lst ds = w := by
        unfold put at e
        rw [if_pos rfl] at e
        exact Option.some.inj e
      subst ew
      exact ⟨q, .lst vs, if_pos rfl, bn, fn, hq, vs, rfl, RpL.mono le _ _ r⟩
    · unfold put at e
      rw [if_neg hm] at e
      obtain ⟨b, x, f1, f2, f3, f4, f5⟩ := R.cell m w e
      have ne : b ≠ q := fun z => nr m (by rw [← z]; exact f1)
      exact ⟨b, x, (if_neg hm).trans f1, f2, (upd_ne ne).symm.trans f3, f4, f5.mono le⟩
  · have e : (if m = wd.k then some q else wd.r m) = some b := e
    by_cases hm : m = wd.k
    · rw [if_pos hm] at e
      cases e
      exact ⟨_, hq, fun z y => by cases y⟩
    · rw [if_neg hm] at e
      exact R.ran m b e
  · have hm : wd.k + 1 ≤ m := hm
    show (if m = wd.k then some q else wd.r m) = none
    rw [if_neg (by omega)]
    exact R.top m (by omega)
  · have e : (if m = wd.k then some q else wd.r m) = some b := e
    by_cases hm : m = wd.k
    · rw [if_pos hm] at e
      cases e
      exact fn
    · rw [if_neg hm] at e
      have ne : b ≠ q := fun z => nr m (by rw [← z]; exact e)
      exact (upd_ne ne).symm.trans (R.rf m b e)
end
theorem wipeG_some {τ : Sl} : ∀ {own : List Nat} {i : Nat} {d : D}, getV (wipe τ own) i = some d → getV τ i = some d ∧ i ∉ own
  | [], i, d, h => ⟨h, by simp⟩
  | j :: own, i, d, h => by
    have h : getV ((wipe τ own).set j none) i = some d := h
    rw [getV_eq] at h
    by_cases e : i = j
    · subst e
      by_cases hl : i < (wipe τ own).length
      · rw [List.getElem?_set_self hl] at h
        cases h
      · rw [List.getElem?_eq_none (by simp; omega)] at h
        cases h
    · rw [List.getElem?_set_ne (Ne.symm e), ← getV_eq] at h
      obtain ⟨h1, h2⟩ := wipeG_some h
      exact ⟨h1, by simp [e, h2]⟩
theorem wipeG_len (τ : Sl) : ∀ own : List Nat, (wipe τ own).length = τ.length
  | [] => rfl
  | j :: own => by
    show ((wipe τ own).set j none).length = _
    rw [List.length_set, wipeG_len τ own]
theorem RS.wipe {K : PySem.W.Frag} {wd : Wd} {τ : Sl} {σ : St} (h : RS K wd τ σ) (own : List Nat) : RS K wd (G.wipe τ own) (L2.wipe σ own) := by
  refine ⟨by rw [wipeG_len, L2.wipe_length]; exact h.len, fun i d e => ?_⟩
  obtain ⟨e1, e2⟩ := wipeG_some e
  obtain ⟨v, hv, r⟩ := h.at_ i d e1
  exact ⟨v, by rw [L2.wipe_out e2]; exact hv, r⟩
theorem wipe_idem (σ : St) (own : List Nat) : L2.wipe (L2.wipe σ own) own = L2.wipe σ own := by
  apply List.ext_getElem?
  intro k
  by_cases hk : k ∈ own
  · rw [wipe_in hk, wipe_in hk, L2.wipe_length]
  · rw [L2.wipe_out hk]
def W0 : WX := fun _ _ _ _ => False
def JTs (X : Cx) (W : WX) (ifs : List Expr) (c : E) : Prop := ∃ tt, PTs X ifs tt ∧ RefT X W tt c
section
variable {X : Cx} {W : WX} {pos : Pos} {a b c e : Expr} {ca cb cc ce : E} {p : Pos}
theorem jts_nil : JTs X W [] (.c (.bl true)) := ⟨_, pts_nil, fun wd F τ cs σ H P PX Q R rs h q x => by
  obtain ⟨k, e, hq⟩ := q wd (.bl true) cs H (Wd.le.refl _) R h
  cases e
  exact hq⟩
abbrev Cx.bk (X : Cx) (scope : Scope) (s : Shared) (H : Hp) (C : Addr) (cl : List (Str × Addr)) (fp : List Addr) : Cx := X.blk s H scope (compEnvC scope cl C X.env) fp
theorem comp_core (m : Bool) {elt tg iter : Expr} {ifs : List Expr} {scope : Scope} {own : List (Str × Nat)} {isp : ISpec} {as : Es} {pt : Pat} (hc : X.calm = true) (hN : X.N.Nodup) (hi : JI X W tg iter isp as) (ok : BlkOk X.N X.env.scope scope own)
    (hg : ∀ (s : Shared) (H : Hp) (C : Addr) (cl : List (Str × Addr)) (fp : List Addr), JG (X.blk s H scope (compEnvC scope cl C X.env) fp) tg pt (own.map (·.2)))
    (ht : ∀ (s : Shared) (H : Hp) (C : Addr) (cl : List (Str × Addr)) (fp : List Addr), JTs (X.blk s H scope (compEnvC scope cl C X.env) fp) W0 ifs cc)
    (he : ∀ (s : Shared) (H : Hp) (C : Addr) (cl : List (Str × Addr)) (fp : List Addr), JE (X.blk s H scope (compEnvC scope cl C X.env) fp) W0 elt ce) (hs : ∀ x, foldedSetIterable iter X.env x = pure x := by intro _; rfl) :
    ∃ te, PE X (.ListComp elt [⟨tg, iter, ifs, 0⟩] scope pos) te ∧ RefE X W te (.comp m (own.map (·.2)) pt isp as cc ce) ∧
      ∀ (i : Nat) (y : Str) (py spos : Pos), X.N[i]? = some y → X.env.scope.names.lookup y = some .local → swapsWith (.ListComp elt [⟨tg, iter, ifs, 0⟩] scope pos) (some (.Name y py)) spos.line X.env = pure true →
        PS X (.Assign [.Name y py] (.ListComp elt [⟨tg, iter, ifs, 0⟩] scope pos) spos) (tAsg te (gName i)) := by
  obtain ⟨wi, p0, r0⟩ := hi
  let uG : TG := fun v σ H Q => ∀ (s : Shared) (H0 : Hp) (C : Addr) (cl : List (Str × Addr)) (fp : List Addr) (g : TG), PG (X.blk s H0 scope (compEnvC scope cl C X.env) fp) tg g → RefG (X.blk s H0 scope (compEnvC scope cl C X.env) fp) g pt (own.map (·.2)) → g v σ H Q
  let uT : TT := fun σ H Q => ∀ (s : Shared) (H0 : Hp) (C : Addr) (cl : List (Str × Addr)) (fp : List Addr) (t : TT), PTs (X.blk s H0 scope (compEnvC scope cl C X.env) fp) ifs t → RefT (X.blk s H0 scope (compEnvC scope cl C X.env) fp) W0 t cc → t σ H Q
  let uE : TE := fun σ H Q => ∀ (s : Shared) (H0 : Hp) (C : Addr) (cl : List (Str × Addr)) (fp : List Addr) (t : TE), PE (X.blk s H0 scope (compEnvC scope cl C X.env) fp) elt t → RefE (X.blk s H0 scope (compEnvC scope cl C X.env) fp) W0 t ce → t σ H Q
  have pG : ∀ (s : Shared) (H : Hp) (C : Addr) (cl : List (Str × Addr)) (fp : List Addr), PG (X.blk s H scope (compEnvC scope cl C X.env) fp) tg uG := fun s H0 C cl fp => by
    obtain ⟨g, p1, r1⟩ := hg s H0 C cl fp
    exact ⟨fun pins s' σ H v u Q I rv h => p1.run pins s' σ H v u Q I rv (h s H0 C cl fp g p1 r1)⟩
  have pT : ∀ (s : Shared) (H : Hp) (C : Addr) (cl : List (Str × Addr)) (fp : List Addr), PTs (X.blk s H scope (compEnvC scope cl C X.env) fp) ifs uT := fun s H0 C cl fp => by
    obtain ⟨g, p1, r1⟩ := ht s H0 C cl fp
    exact ⟨fun pins s' σ H Q I h => p1.run pins s' σ H Q I (h s H0 C cl fp g p1 r1)⟩
  have pE : ∀ (s : Shared) (H : Hp) (C : Addr) (cl : List (Str × Addr)) (fp : List Addr), PE (X.blk s H scope (compEnvC scope cl C X.env) fp) elt uE := fun s H0 C cl fp => by
    obtain ⟨g, p1, r1⟩ := he s H0 C cl fp
    exact ⟨fun pins s' σ H Q I h => p1.run pins s' σ H Q I (h s H0 C cl fp g p1 r1)⟩
  refine ⟨_, pe_lc hc hN p0 ok pG pT pE hs, fun wd F τ cs σ H P PX Q R rs h q x => ?_, fun i y py spos hy hyl hsw => ps_setLc hc hN hy hyl hsw p0 ok pG pT pE hs⟩
  have h : wpEs as τ cs (fun ds c1 => isp ds c1 fun items grd =>
      compL pt grd (G.wipe τ (own.map (·.2))) (fun σ1 c2 K => wpE cc σ1 c2 K (fun _ _ => False)) (fun σ1 c2 K => wpE ce σ1 c2 K (fun _ _ => False))
        (fun ys c3 => if m = true then ∀ n, c3 n = none → P (.ref n) (put c3 n (.lst ys)) else P (.lst ys) c3) items [] c1) PX := h
  refine r0 wd F τ cs σ H (fun items grd c1 => compL pt grd (G.wipe τ (own.map (·.2))) (fun σ1 c2 K => wpE cc σ1 c2 K (fun _ _ => False)) (fun σ1 c2 K => wpE ce σ1 c2 K (fun _ _ => False))
        (fun ys c3 => if m = true then ∀ n, c3 n = none → P (.ref n) (put c3 n (.lst ys)) else P (.lst ys) c3) items [] c1) PX _ R rs h (fun wd1 items grd c1 J H1 l1 R1 it h1 => ?_) x
  intro Dd hD
  have fn : F Dd = none := Evl.fresh_back R1.f hD
  refine ⟨fun i mm H' => ∃ wd' cs' acc vs, wd1.le wd' ∧ Rl X.K wd' (upd F Dd (.lst vs)) cs' H' ∧ RpL X.K wd' acc vs ∧ mm = items.length - i ∧ i ≤ items.length ∧
    compL pt grd (G.wipe τ (own.map (·.2))) (fun σ1 c2 K => wpE cc σ1 c2 K (fun _ _ => False)) (fun σ1 c2 K => wpE ce σ1 c2 K (fun _ _ => False))
        (fun ys c3 => if m = true then ∀ n, c3 n = none → P (.ref n) (put c3 n (.lst ys)) else P (.lst ys) c3) (items.drop i) acc cs', ⟨items.length, wd1, c1, [], [], Wd.le.refl _, R1.fNew hD _, rfl, by simp, Nat.zero_le _, h1⟩, ?_⟩
  rintro i mm H' ⟨wd', cs', acc, vs, l', R', ra, em, hle, h'⟩
  by_cases hi : i < items.length
  · have ed : items.drop i = items[i] :: items.drop (i + 1) := List.drop_eq_getElem_cons hi
    rw [ed] at h'
    obtain ⟨hgd, h'⟩ := h'
    obtain ⟨g0, gy⟩ := it.go wd' _ cs' H' i items[i] l' R' hgd (List.getElem?_eq_getElem hi)
    cases eb : bindP pt [items[i]] (G.wipe τ (own.map (·.2))) with
    | none => rw [eb] at h'; exact h'.elim
    | some τ1 =>
      rw [eb] at h'
      refine .inr ⟨g0, fun H2 => ∃ wd' cs' acc vs, wd1.le wd' ∧ Rl X.K wd' (upd F Dd (.lst vs)) cs' H2 ∧ RpL X.K wd' acc vs ∧
        compL pt grd (G.wipe τ (own.map (·.2))) (fun σ1 c2 K => wpE cc σ1 c2 K (fun _ _ => False)) (fun σ1 c2 K => wpE ce σ1 c2 K (fun _ _ => False))
          (fun ys c3 => if m = true then ∀ n, c3 n = none → P (.ref n) (put c3 n (.lst ys)) else P (.lst ys) c3) (items.drop (i + 1)) acc cs', fun H2 ⟨wd2, c2, acc2, vs2, l2, R2, ra2, h2⟩ => ⟨items.length - (i + 1), by omega, wd2, c2, acc2, vs2, l2, R2, ra2, rfl, hi, h2⟩, fun xv H2 y => ?_⟩
      obtain ⟨wd2, l2, R2, rv⟩ := gy xv H2 y
      have rsw : RS X.K wd2 (G.wipe τ (own.map (·.2))) (L2.wipe σ (own.map (·.2))) := ((rs.mono (l1.trans (l'.trans l2))).wipe _)
      intro s0 H0 C cl fp g p1 r1
      refine r1 wd2 _ _ cs' _ H2 items[i] xv τ1 _ R2 rsw rv eb fun σ3 rs3 w3 => ?_
      refine ⟨by rw [w3, wipe_idem], ?_⟩
      intro s0 H0 C cl fp t p2 r2
      have xz : ∀ {wd F σ}, XOk X W0 wd F σ (fun _ _ => False) := fun {wd F σ} _ _ _ _ _ _ _ _ _ z => z
      refine r2 wd2 _ τ1 cs' σ3 H2 _ (fun _ _ => False) _ R2 rs3 h' (fun wd3 d3 c3 H3 l3 R3 h3 => ?_) xz
      rcases h3 with ⟨e3, h3⟩ | ⟨e3, h3⟩
      · refine ⟨true, e3, ?_⟩
        rw [if_pos rfl]
        intro s0 H0 C cl fp t p4 r4
        refine r4 wd3 _ τ1 c3 σ3 H3 _ (fun _ _ => False) _ R3 (rs3.mono l3) h3 (fun wd4 d4 c4 v4 H4 l4 R4 rv4 h4 => ?_) xz
        have hf : H4 Dd = some (.lst vs) := R4.f Dd _ upd_same
        have ra4 := RpL.mono (l2.trans (l3.trans l4)) _ _ ra
        refine ⟨vs, hf, by rw [ra.length, sizeL]; exact h4.1, wd4, c4, acc ++ [d4], vs ++ [v4], l'.trans (l2.trans (l3.trans l4)), ?_, ra4.append ⟨v4, [], rfl, rv4, rfl⟩, h4.2⟩
        exact R4.fPut (vs ++ [v4])
      · refine ⟨false, e3, ?_⟩
        rw [if_neg Bool.false_ne_true]
        exact ⟨wd3, c3, acc, vs, l'.trans (l2.trans l3), R3, RpL.mono (l2.trans l3) _ _ ra, h3⟩
  · have ei : i = items.length := by omega
    subst ei
    rw [List.drop_length] at h'
    refine .inl ⟨it.stop wd' _ cs' H' l' R' h'.1, ?_⟩
    have h2 := h'.2
    cases m with
    | true =>
      rw [if_pos rfl] at h2
      obtain ⟨n, wd2, hn, l2, R2, r2⟩ := R'.fCell fn ra
      exact q wd2 _ _ _ _ (l1.trans (l'.trans l2)) R2 r2 (h2 n hn)
    | false =>
      rw [if_neg Bool.false_ne_true] at h2
      obtain ⟨wd2, l2, R2, r2⟩ := R'.fTree fn ra
      exact q wd2 _ _ _ _ (l1.trans (l'.trans l2)) R2 r2 h2
theorem j_comp (m : Bool) {elt tg iter : Expr} {ifs : List Expr} {scope : Scope} {own : List (Str × Nat)} {isp : ISpec} {as : Es} {pt : Pat} (hc : X.calm = true) (hN : X.N.Nodup) (hi : JI X W tg iter isp as) (ok : BlkOk X.N X.env.scope scope own)
    (hg : ∀ (s : Shared) (H : Hp) (C : Addr) (cl : List (Str × Addr)) (fp : List Addr), JG (X.blk s H scope (compEnvC scope cl C X.env) fp) tg pt (own.map (·.2)))
    (ht : ∀ (s : Shared) (H : Hp) (C : Addr) (cl : List (Str × Addr)) (fp : List Addr), JTs (X.blk s H scope (compEnvC scope cl C X.env) fp) W0 ifs cc)
    (he : ∀ (s : Shared) (H : Hp) (C : Addr) (cl : List (Str × Addr)) (fp : List Addr), JE (X.blk s H scope (compEnvC scope cl C X.env) fp) W0 elt ce) (hs : ∀ x, foldedSetIterable iter X.env x = pure x := by intro _; rfl) :
    JE X W (.ListComp elt [⟨tg, iter, ifs, 0⟩] scope pos) (.comp m (own.map (·.2)) pt isp as cc ce) := by
  obtain ⟨te, p1, r1, _⟩ := comp_core (pos := pos) m hc hN hi ok hg ht he hs
  exact ⟨te, p1, r1⟩
theorem js_setc (i : Nat) (m : Bool) {y : Str} {py spos : Pos} {elt tg iter : Expr} {ifs : List Expr} {scope : Scope} {own : List (Str × Nat)} {isp : ISpec} {as : Es} {pt : Pat} (hc : X.calm = true) (hN : X.N.Nodup) (hy : X.N[i]? = some y) (hyl : X.env.scope.names.lookup y = some .local)
    (hsw : swapsWith (.ListComp elt [⟨tg, iter, ifs, 0⟩] scope pos) (some (.Name y py)) spos.line X.env = pure true) (hi : JI X W tg iter isp as) (ok : BlkOk X.N X.env.scope scope own)
    (hg : ∀ (s : Shared) (H : Hp) (C : Addr) (cl : List (Str × Addr)) (fp : List Addr), JG (X.blk s H scope (compEnvC scope cl C X.env) fp) tg pt (own.map (·.2)))
    (ht : ∀ (s : Shared) (H : Hp) (C : Addr) (cl : List (Str × Addr)) (fp : List Addr), JTs (X.blk s H scope (compEnvC scope cl C X.env) fp) W0 ifs cc)
    (he : ∀ (s : Shared) (H : Hp) (C : Addr) (cl : List (Str × Addr)) (fp : List Addr), JE (X.blk s H scope (compEnvC scope cl C X.env) fp) W0 elt ce) (hs : ∀ x, foldedSetIterable iter X.env x = pure x := by intro _; rfl) :
    JS X W (.Assign [.Name y py] (.ListComp elt [⟨tg, iter, ifs, 0⟩] scope pos) spos) (.asg (.nm i) (.comp m (own.map (·.2)) pt isp as cc ce)) := by
  obtain ⟨te, p1, r1, ps⟩ := comp_core (pos := pos) m hc hN hi ok hg ht he hs
  refine ⟨_, ps i y py spos hy hyl hsw, fun wd F τ cs σ H P Q R rs h q => ?_⟩
  exact r1 wd F τ cs σ H _ _ _ R rs h (fun wd1 d c1 v H1 l1 R1 rv h1 => q.nx wd1 _ c1 _ H1 l1 R1 ((rs.mono l1).set i rv) h1) (q.xok rs)
end
end G

/-! GFn: calls of defs; a def keeps its core promise. -/
namespace G
open PySem PySem.Spec L2
open Evl (Ex)
def lift (K : PySem.W.Frag) (mg : Str → Option Value) (sp : Spec) : Sp := fun vs H Q E => ∃ wd F cs ds P PX, Rl K wd F cs H ∧ RpL K wd ds vs ∧ sp ds cs P PX ∧ QOk K wd F P Q ∧
  ∀ wd' x cs' cls dd H', wd.le wd' → Rl K wd' F cs' H' → RpX K mg wd' x cls dd → PX x cs' → E cls dd H'
/-- a def by its name: level, number of parameters, promise -/
structure Fn (P : Program) (w : World) (K : PySem.W.Frag) (mg : Str → Option Value) (base : Heap) (x : Str) (k n : Nat) (sp : Spec) : Prop where
  ex : ∃ f fd ps, ps.length = n ∧ mg x = some (.ref f) ∧ FnOk P w K mg base (L2N.CX P w) k f fd ps (lift K mg sp) ∧ PySem.W.keepIn K (.ref f) = true ∧ Binds K fd ps []
theorem Fn.mono {P : Program} {w : World} {K : PySem.W.Frag} {mg : Str → Option Value} {base : Heap} {x : Str} {k j n : Nat} {sp : Spec} (F : Fn P w K mg base x k n sp) (h : k ≤ j) : Fn P w K mg base x j n sp := by
  obtain ⟨f, fd, ps, e, hm, ok, kp, b⟩ := F.ex
  exact ⟨f, fd, ps, e, hm, ok.mono h, kp, b⟩
theorem Fn.imp {P : Program} {w : World} {K : PySem.W.Frag} {mg : Str → Option Value} {base : Heap} {x : Str} {k n : Nat} {sp sp' : Spec} (F : Fn P w K mg base x k n sp) (h : ∀ ds cs Q X, sp' ds cs Q X → sp ds cs Q X) : Fn P w K mg base x k n sp' := by
  obtain ⟨f, fd, ps, e, hm, ok, kp, b⟩ := F.ex
  exact ⟨f, fd, ps, e, hm, ok.imp fun vs H Q E ⟨wd, F, cs, ds, P, PX, R, r, s, q⟩ => ⟨wd, F, cs, ds, P, PX, R, r, h _ _ _ _ s, q⟩, kp, b⟩
section
variable {X : Cx} {W : WX} {pos p : Pos} {e : Expr} {es : List Expr} {ces : Es} {sp : Spec} {x : Str} {k n : Nat}
theorem j_call (F : Fn X.prog X.w X.K X.mg X.base x k n sp) (hr : Room k X.A) (tk : L2N.Takes X W) (hg : Gl X x) (ha : JA X W (e :: es) ces) (hdb : (x == ("__debug__" : Str)) = false := by decide)
    (he : starEach (e :: es) X.env = (false, eval e X.env) :: starEach es X.env := by rfl) (hpl : (backTo pos (starEach es X.env)).any (·.1) = false := by rfl) : JE X W (.Call (.Name x p) (e :: es) [] pos) (.app sp ces) := by
  obtain ⟨f, fd, ps, en, hm, ok, kp, b⟩ := F.ex
  obtain ⟨ta, p1, r1⟩ := ha
  refine ⟨_, pe_callSD ok hr hg hm kp b .nil (fun σ => L2N.passAt tk σ) p1 hdb he hpl, fun wd F τ cs σ H P PX Q R rs h q x => ?_⟩
  refine r1 wd F τ cs σ H _ PX _ R rs h (fun wd1 ds c1 vs H1 l1 R1 rv h1 => ?_) x
  rw [List.append_nil]
  exact ⟨wd1, F, c1, ds, P, PX, R1, rv, h1, q.mono l1, fun wd' y cs' cls dd H' l R' rx z => x wd' y cs' cls dd H' (l1.trans l) R' rx z⟩
end
theorem rs_start {K : PySem.W.Frag} {wd : Wd} {N : List Str} {ds : List D} {vs : List V} (r : RpL K wd ds vs) : RS K wd (G.start N.length ds) (L2.start N vs) := by
  have hl := r.length
  refine ⟨by simp [G.start, L2.start, hl], fun i d e => ?_⟩
  rw [getV_eq] at e
  unfold G.start at e
  unfold L2.start
  by_cases hi : i < ds.length
  · rw [List.getElem?_append_left (by simpa using hi), List.getElem?_map] at e
    cases ed : ds[i]? with
    | none =>
      rw [ed] at e
      cases e
    | some d' =>
      rw [ed] at e
      have : d' = d := Option.some.inj e
      subst this
      obtain ⟨v, h1, h2⟩ := r.get ed
      exact ⟨v, by rw [List.getElem?_append_left (by rw [List.length_map]; omega), List.getElem?_map, h1]; rfl, h2⟩
  · rw [List.getElem?_append_right (by simpa using Nat.le_of_not_lt hi), List.getElem?_replicate] at e
    split at e <;> cases e
section
variable {P : Program} {w : World} {K : PySem.W.Frag} {mg : Str → Option Value} {base : Heap}
/-- what the terms of a body want of its context -/
structure Ct (X : Cx) (W : WX) (k : Nat) : Prop where
  hc : X.calm = true
  hN : X.N.Nodup
  hp : PassesOwn (model X.prog X.w) X.A X.env X.xe
  tk : L2N.Takes X W
  hr : Room k X.A
theorem Ct.hu {X : Cx} {W : WX} {k : Nat} (c : Ct X W k) : X.A.units + 64 < cLine := by have := c.hr.un; omega
abbrev wxOf (E : XK) : WX := fun cls d _ H => E cls d H
theorem fnOk_of {x qual : Str} {params : Arguments} {body : List Stmt} {scope : Scope} {dvs : List V} {kws : List (Str × V)} {f : Addr} {fd : FuncData} {N ps : List Str} {k : Nat} {sp : Spec} {core : S} (FD : FunD K x qual params body scope dvs kws f fd) (S : FnScope N ps scope)
    (len : ∀ ds cs Q PX, sp ds cs Q PX → ds.length = ps.length)
    (hb : ∀ (cdv : Value) (A : Around) (outer : List Env) (s : Shared) (H : Hp) (E : XK), Ct (cxOf (L2N.CX P w) P w K mg base N qual scope f cdv A outer s H E) (wxOf E) k → JSs (cxOf (L2N.CX P w) P w K mg base N qual scope f cdv A outer s H E) (wxOf E) body core)
    (ok : okFn N.length core sp) : FnOk P w K mg base (L2N.CX P w) (k + 1) f fd ps (lift K mg sp) := by
  refine FD.ok S (fun vs H Q E h => ?_) fun cdv A outer s H vs Q E hr h => ?_
  · obtain ⟨wd, F, cs, ds, PD, PX, R, r, s, q⟩ := h
    rw [r.length]
    exact len _ _ _ _ s
  · obtain ⟨wd, F, cs, ds, PD, PX, R, r, hs, q, x⟩ := h
    obtain ⟨t, p1, r1⟩ := hb cdv A outer s H E ⟨rfl, S.nd, passes_of rfl, L2N.takes_of rfl rfl rfl rfl, hr⟩
    refine ⟨t, p1, ?_⟩
    refine r1 wd F _ cs _ H _ _ R (rs_start r) (ok ds cs PD PX hs) ⟨fun wd' τ cs' σ H' l R' rs' h' => q wd' .non cs' .non H' l R' rfl h', fun _ _ _ _ _ _ _ _ z => z.elim, fun _ _ _ _ _ _ _ _ z => z.elim, q, fun wd' y τ cs' σ cls dd H' l R' rs' rx z => x wd' y cs' cls dd H' l R' rx z⟩
end
end G

/-! GMeth: methods of lists, places stored. -/
namespace G
open PySem PySem.Spec L2
open Evl (Ex)
def RefM (K : PySem.W.Frag) (r : V → List V → Hp → VK → Prop) (sp : Spec) : Prop := ∀ wd F cs H d ds v vs (P : KD) (PX : KX) (Q : VK), Rl K wd F cs H → Rp K wd d v → RpL K wd ds vs → sp (d :: ds) cs P PX → QOk K wd F P Q → r v vs H Q
section
variable {X : Cx} {W : WX} {pos apos : Pos} {o e : Expr} {es : List Expr} {co ce : E} {ces : Es} {sp : Spec}
theorem j_methL {r : V → List V → Hp → VK → Prop} {id : String} {name : Str} (slot : Slot "list" name id) (hty : typeOf (.builtin id) = pure (.type "method_descriptor")) (hm : MtR X id r) (hr : RefM X.K r sp) (ho : JE X W o co) (ha : JA X W (e :: es) ces)
    (hbase : attributeBase o name X.env (eval o X.env) = eval o X.env := by rfl)
    (hfew : ((backTo pos (starEach (e :: es) X.env)).all (fun x => !x.1) && (backToKw pos (keywordEach [] X.env)).all (fun x => x.1.isSome)
      && decide ((e :: es).length + ([] : List Keyword).length + (if ([] : List Keyword).isEmpty then 0 else 1) < 30)) = true := by rfl)
    (hline : (apos.endLine == pos.line) = true := by rfl) (hs : starEach (e :: es) X.env = (false, eval e X.env) :: starEach es X.env := by rfl) (hplain : (backTo pos (starEach es X.env)).any (·.1) = false := by rfl) :
    JE X W (.Call (.Attribute o name apos) (e :: es) [] pos) (.meth chkL sp co ces) := by
  obtain ⟨to, p1, r1⟩ := ho
  obtain ⟨ta, p2, r2⟩ := ha
  refine ⟨_, pe_bm PySem.F.plainAttrs_list slot hty hm p1 p2 hbase hfew hline hs hplain, fun wd F τ cs σ H P PX Q R rs h q x => ?_⟩
  refine r1 wd F τ cs σ H _ PX _ R rs h (fun wd1 d c1 v H1 l1 R1 rv h1 => ?_) x
  obtain ⟨hk, h1⟩ := h1
  cases ex : getL d c1 with
  | none =>
    unfold chkL at hk
    rw [ex] at hk
    exact hk.elim
  | some xs =>
    obtain ⟨a, ws, e2, s, r3⟩ := R1.getL rv ex
    subst e2
    refine ⟨Or.inl ⟨rfl, ws, SqL.of s⟩, ?_⟩
    · refine r2 wd1 F τ c1 σ H1 _ PX _ R1 (rs.mono l1) h1 (fun wd2 ds c2 vs H2 l2 R2 rvs h2 => ?_) (x.mono l1)
      exact hr wd2 F c2 H2 d ds _ vs P PX Q R2 (rv.mono l2) rvs h2 (q.mono (l1.trans l2))
/-- a cell's list, to be written -/
theorem Rl.cellAt {K : PySem.W.Frag} {wd : Wd} {F H : Hp} {cs : Cs} (R : Rl K wd F cs H) {n : Nat} {v : V} {xs : List D} (r : Rp K wd (.ref n) v) (h : cs n = some (.lst xs)) :
    ∃ a vs, v = .ref a ∧ H a = some (.lst vs) ∧ RpL K wd xs vs ∧ ∀ ys ws, RpL K wd ys ws → Rl K wd F (put cs n (.lst ys)) (upd H a (.lst ws)) := by
  obtain ⟨a, ea, ev⟩ := id r
  obtain ⟨a', u, f1, f2, f3, f4, ws, f5, f6⟩ := R.cell n _ h
  have : a' = a := Option.some.inj (f1.symm.trans ea)
  subst this f5
  exact ⟨a', ws, ev, f4, f6, fun ys zs q => R.write ⟨_, h⟩ f1 ⟨zs, rfl, q⟩⟩
theorem sAppend_inv {ds : List D} {cs : Cs} {Q : KD} {PX : KX} {d : D} (h : sAppend (d :: ds) cs Q PX) : ∃ n y xs, d = .ref n ∧ ds = [y] ∧ cs n = some (.lst xs) ∧ xs.length < lim ∧ Q .non (put cs n (.lst (xs ++ [y]))) := by
  unfold sAppend at h
  split at h
  · rename_i n y e
    cases e
    split at h
    · rename_i xs ec
      exact ⟨n, y, xs, rfl, rfl, ec, h.1, h.2⟩
    · exact h.elim
  · exact h.elim
theorem refm_append : RefM X.K rAppend sAppend := by
  intro wd F cs H d ds v vs P PX Q R rv rvs h q
  obtain ⟨n, y, xs, e1, e2, ec, hl, hP⟩ := sAppend_inv h
  subst e1 e2
  obtain ⟨a, ws, ea, hH, rw', put'⟩ := R.cellAt rv ec
  obtain ⟨w, ew, rw2⟩ := rvs.one
  exact ⟨a, ws, w, ea, ew, hH, by rw [rw'.length, sizeL]; exact hl, q wd .non _ _ _ (Wd.le.refl _) (put' _ _ (rw'.append (es := [y]) (ws := [w]) ⟨w, [], rfl, rw2, rfl⟩)) rfl hP⟩
theorem sInsert_inv {ds : List D} {cs : Cs} {Q : KD} {PX : KX} {d : D} (h : sInsert (d :: ds) cs Q PX) : ∃ n i y xs, d = .ref n ∧ ds = [.int i, y] ∧ cs n = some (.lst xs) ∧ xs.length < lim ∧ 0 ≤ i ∧ i < 2 ^ 63 ∧ Q .non (put cs n (.lst (xs.take i.toNat ++ [y] ++ xs.drop i.toNat))) := by
  unfold sInsert at h
  split at h
  · rename_i n i y e
    cases e
    split at h
    · rename_i xs ec
      exact ⟨n, i, y, xs, rfl, rfl, ec, h.1, h.2.1, h.2.2.1, h.2.2.2⟩
    · exact h.elim
  · exact h.elim
theorem refm_insert : RefM X.K (fun x vs H Q => ∃ (l : Addr) (xs : List V) (i : Int) (y : V), x = .ref l ∧ vs = [.int i, y] ∧ H l = some (.lst xs) ∧ xs.length < sizeLine ∧ 0 ≤ i ∧ i < 2 ^ 63 ∧
    Q .non (upd H l (.lst (xs.take i.toNat ++ [y] ++ xs.drop i.toNat)))) sInsert := by
  intro wd F cs H d ds v vs P PX Q R rv rvs h q
  obtain ⟨n, i, y, xs, e1, e2, ec, hl, h0, h1, hP⟩ := sInsert_inv h
  subst e1 e2
  obtain ⟨a, ws, ea, hH, rw', put'⟩ := R.cellAt rv ec
  obtain ⟨u, w, ew, ru, rw2⟩ := rvs.two
  refine ⟨a, ws, i, w, ea, by rw [ew, show u = _ from ru], hH, by rw [rw'.length, sizeL]; exact hl, h0, h1, q wd .non _ _ _ (Wd.le.refl _) (put' _ _ ?_) rfl hP⟩
  exact ((rw'.take _).append (es := [y]) (ws := [w]) ⟨w, [], rfl, rw2, rfl⟩).append (rw'.drop _)
theorem j_append (ho : JE X W o co) (ha : JE X W e ce) (hs : starEach [e] X.env = (false, eval e X.env) :: starEach [] X.env := by rfl) (hbase : attributeBase o "append" X.env (eval o X.env) = eval o X.env := by rfl)
    (hfew : ((backTo pos (starEach [e] X.env)).all (fun x => !x.1) && (backToKw pos (keywordEach [] X.env)).all (fun x => x.1.isSome)
      && decide ([e].length + ([] : List Keyword).length + (if ([] : List Keyword).isEmpty then 0 else 1) < 30)) = true := by rfl)
    (hline : (apos.endLine == pos.line) = true := by rfl) : JE X W (.Call (.Attribute o "append" apos) [e] [] pos) (.meth chkL sAppend co (.cons ce .nil)) :=
  j_methL PySem.F.slot_list_append PySem.F.type_list_append mt_append refm_append ho (ja_cons ha ja_nil hs) hbase hfew hline hs rfl
theorem j_insert {e2 : Expr} {ce2 : E} (ho : JE X W o co) (ha : JE X W e ce) (hb : JE X W e2 ce2) (hs : starEach [e, e2] X.env = (false, eval e X.env) :: starEach [e2] X.env := by rfl) (hs2 : starEach [e2] X.env = (false, eval e2 X.env) :: starEach [] X.env := by rfl) (hbase : attributeBase o "insert" X.env (eval o X.env) = eval o X.env := by rfl)
    (hfew : ((backTo pos (starEach [e, e2] X.env)).all (fun x => !x.1) && (backToKw pos (keywordEach [] X.env)).all (fun x => x.1.isSome)
      && decide ([e, e2].length + ([] : List Keyword).length + (if ([] : List Keyword).isEmpty then 0 else 1) < 30)) = true := by rfl)
    (hline : (apos.endLine == pos.line) = true := by rfl) (hplain : (backTo pos (starEach [e2] X.env)).any (·.1) = false := by rfl) : JE X W (.Call (.Attribute o "insert" apos) [e, e2] [] pos) (.meth chkL sInsert co (.cons ce (.cons ce2 .nil))) :=
  j_methL PySem.F.slot_list_insert PySem.F.type_list_insert mt_insert refm_insert ho (ja_cons ha (ja_cons hb ja_nil hs2) hs) hbase hfew hline hs hplain
/-! ### a[i] = e -/
theorem sSetIx_inv {v d i : D} {cs : Cs} {Q : KD} {PX : KX} (h : sSetIx [v, d, i] cs Q PX) : ∃ n k xs j, d = .ref n ∧ i = .int k ∧ cs n = some (.lst xs) ∧ ixn xs.length k = some j ∧ Q .non (put cs n (.lst (xs.set j v))) := by
  unfold sSetIx at h
  split at h
  · rename_i v n k e
    cases e
    split at h
    · rename_i xs ec
      split at h
      · rename_i j ej
        exact ⟨n, k, xs, j, rfl, rfl, ec, ej, h⟩
      · exact h.elim
    · exact h.elim
  · exact h.elim
theorem js_setIx {i : Expr} {ci : E} (he : JE X W e ce) (ho : JE X W o co) (hi : JE X W i ci) (hs : swapsWithSole [.Subscript o i apos] e pos.line X.env = pure false := by rfl) (hw : swappedStores [.Subscript o i apos] e X.env = pure none := by rfl)
    (h1 : (assignEach [.Subscript o i apos] X.env).map (·.2) = [assign (.Subscript o i apos) X.env] := by rfl)
    (ha : ∀ v, assign (.Subscript o i apos) X.env v = (do
      let ov ← holding [v] (eval o X.env)
      let iv ← holding [v, ov] (eval i X.env)
      standAt apos
      holding [v, ov, iv] (setItem ov iv v)
      release [v, ov, iv] []) := by intro _; rfl) : JS X W (.Assign [.Subscript o i apos] e pos) (.exp (.app sSetIx (.cons ce (.cons co (.cons ci .nil))))) := by
  obtain ⟨te, p1, r1⟩ := he
  obtain ⟨to, p2, r2⟩ := ho
  obtain ⟨ti, p3, r3⟩ := hi
  refine ⟨_, ps_asg p1 (pg_sub p2 p3 set_list ha) hs hw h1, fun wd F τ cs σ H P Q R rs h q => ?_⟩
  refine r1 wd F τ cs σ H _ _ _ R rs h (fun wd1 d1 c1 v1 H1 l1 R1 rv1 h1 => ?_) (q.xok rs)
  refine r2 wd1 F τ c1 σ H1 _ _ _ R1 (rs.mono l1) h1 (fun wd2 d2 c2 v2 H2 l2 R2 rv2 h2 => ?_) ((q.xok rs).mono l1)
  refine r3 wd2 F τ c2 σ H2 _ _ _ R2 (rs.mono (l1.trans l2)) h2 (fun wd3 d3 c3 v3 H3 l3 R3 rv3 h3 => ?_) ((q.xok rs).mono (l1.trans l2))
  obtain ⟨n, k, xs, j, e1, e2, ec, ej, hP⟩ := sSetIx_inv (v := d1) (d := d2) (i := d3) (cs := c3) (Q := fun x cs' => P.nx τ cs') (PX := fun x cs' => P.ex x τ cs') h3
  subst e1 e2
  obtain ⟨a, ws, ea, hH, rw', put'⟩ := R3.cellAt (rv2.mono l3) ec
  have l13 := l1.trans (l2.trans l3)
  refine ⟨a, ws, k, j, ea, rv3, hH, by rw [rw'.length]; exact ej, ?_⟩
  exact q.nx wd3 τ _ σ _ l13 (put' _ _ (rw'.set (rv1.mono (l2.trans l3)))) (rs.mono l13) hP
end
end G
namespace G
open PySem PySem.Spec L2
section
variable {X : Cx} {W : WX} {pos p' : Pos} {e : Expr} {ce : E}
end
end G

/-! GDict: dicts as cells. -/
namespace G
open PySem PySem.Spec L2
def valA (l : DL) (k : Key) : Option D := (l.find? fun p => decide (p.1 = k)).map (·.2)
/-- the same keys, the values told -/
structure DicR (K : PySem.W.Frag) (wd : Wd) (l : DL) (kvs : List (Key × V)) : Prop where
  ks : l.map (·.1) = kvs.map (·.1)
  vs : RpL K wd (l.map (·.2)) (kvs.map (·.2))
section
variable {K : PySem.W.Frag} {wd wd' : Wd} {F H : Hp} {cs : Cs}
theorem DicR.o {l : DL} {kvs : List (Key × V)} (h : DicR K wd l kvs) : RpO K wd (dicO l) (.dK kvs) := by
  refine ⟨kvs, rfl, ?_, h.vs⟩
  have := congrArg (List.map kD) h.ks
  rw [List.map_map, List.map_map] at this
  exact this
theorem DicR.cons_inv {p : Key × D} {l : DL} {q : Key × V} {kvs : List (Key × V)} (h : DicR K wd (p :: l) (q :: kvs)) : p.1 = q.1 ∧ Rp K wd p.2 q.2 ∧ DicR K wd l kvs := by
  have a := h.ks
  simp only [List.map_cons, List.cons.injEq] at a
  obtain ⟨v, r, e, b, c⟩ := h.vs
  simp only [List.map_cons, List.cons.injEq] at e
  exact ⟨a.1, by rw [e.1]; exact b, a.2, by rw [e.2]; exact c⟩
theorem DicR.nil : DicR K wd [] [] := ⟨rfl, rfl⟩
theorem DicR.cons {p : Key × D} {l : DL} {q : Key × V} {kvs : List (Key × V)} (h1 : p.1 = q.1) (h2 : Rp K wd p.2 q.2) (h : DicR K wd l kvs) : DicR K wd (p :: l) (q :: kvs) :=
  ⟨by simp only [List.map_cons, h1, h.ks], q.2, kvs.map (·.2), rfl, h2, h.vs⟩
theorem DicR.ind {M : DL → List (Key × V) → Prop} (h0 : M [] []) (hs : ∀ p l q kvs, p.1 = q.1 → Rp K wd p.2 q.2 → DicR K wd l kvs → M l kvs → M (p :: l) (q :: kvs)) : ∀ {l : DL} {kvs : List (Key × V)}, DicR K wd l kvs → M l kvs
  | [], [], _ => h0
  | [], _ :: _, h => by have := h.ks; simp at this
  | _ :: _, [], h => by have := h.ks; simp at this
  | p :: l, q :: kvs, h => by
    obtain ⟨a, b, c⟩ := h.cons_inv
    exact hs p l q kvs a b c (DicR.ind h0 hs c)
theorem DicR.mono {l : DL} {kvs : List (Key × V)} (h : DicR K wd l kvs) (le : wd.le wd') : DicR K wd' l kvs := ⟨h.ks, RpL.mono le _ _ h.vs⟩
theorem DicR.len {l : DL} {kvs : List (Key × V)} (h : DicR K wd l kvs) : l.length = kvs.length := by
  have := congrArg List.length h.ks
  simpa using this
theorem DicR.some {l : DL} {kvs : List (Key × V)} {k : Key} {d : D} (h : DicR K wd l kvs) : valA l k = some d → ∃ v, valV kvs k = some v ∧ Rp K wd d v := by
  refine DicR.ind (M := fun l kvs => valA l k = Option.some d → ∃ v, valV kvs k = Option.some v ∧ Rp K wd d v) ?_ ?_ h
  · intro e
    simp [valA] at e
  · intro p l q kvs h1 h2 _ ih e
    unfold valA at e
    by_cases z : p.1 = k
    · rw [List.find?_cons_of_pos (by simpa using z)] at e
      cases e
      exact ⟨q.2, valV_pos (h1.symm.trans z), h2⟩
    · rw [List.find?_cons_of_neg (by simpa using z)] at e
      obtain ⟨v, a, b⟩ := ih e
      exact ⟨v, by rw [valV_neg (fun y => z (h1.trans y))]; exact a, b⟩
theorem DicR.none {l : DL} {kvs : List (Key × V)} {k : Key} (h : DicR K wd l kvs) : valA l k = none → valV kvs k = none := by
  refine DicR.ind (M := fun l kvs => valA l k = Option.none → valV kvs k = Option.none) ?_ ?_ h
  · intro _
    rfl
  · intro p l q kvs h1 h2 _ ih e
    unfold valA at e
    by_cases z : p.1 = k
    · rw [List.find?_cons_of_pos (by simpa using z)] at e
      cases e
    · rw [List.find?_cons_of_neg (by simpa using z)] at e
      rw [valV_neg (fun y => z (h1.trans y))]
      exact ih e
theorem DicR.any {l : DL} {kvs : List (Key × V)} {k : Key} (h : DicR K wd l kvs) : (l.any fun p => decide (p.1 = k)) = kvs.any fun p => decide (p.1 = k) := by
  refine DicR.ind (M := fun l kvs => (l.any fun p => decide (p.1 = k)) = kvs.any fun p => decide (p.1 = k)) rfl ?_ h
  intro p l q kvs h1 h2 _ ih
  rw [List.any_cons, List.any_cons, ih, h1]
theorem DicR.put {l : DL} {kvs : List (Key × V)} {k : Key} {d : D} {v : V} (h : DicR K wd l kvs) (r : Rp K wd d v) : DicR K wd (putA l k d) (putK kvs k v) := by
  unfold putA putK
  rw [h.any (k := k)]
  by_cases z : (kvs.any fun p => decide (p.1 = k)) = true
  · rw [if_pos z, if_pos z]
    refine DicR.ind (M := fun l kvs => DicR K wd (l.map fun p => if p.1 = k then (p.1, d) else p) (kvs.map fun p => if p.1 = k then (p.1, v) else p)) DicR.nil ?_ h
    intro p l q kvs h1 h2 _ ih
    rw [List.map_cons, List.map_cons]
    by_cases y : p.1 = k
    · rw [if_pos y, if_pos (h1.symm.trans y)]
      exact DicR.cons h1 r ih
    · rw [if_neg y, if_neg (fun e => y (h1.trans e))]
      exact DicR.cons h1 h2 ih
  · rw [if_neg z, if_neg z]
    refine ⟨by simp only [List.map_append, h.ks]; rfl, ?_⟩
    rw [List.map_append, List.map_append]
    exact h.vs.append (es := [d]) (ws := [v]) ⟨v, [], rfl, r, rfl⟩
end
/-! ### rules -/
section
variable {X : Cx} {W : WX} {pos apos cpos p : Pos} {o i e f value : Expr} {co ci ce cf cv : E}
end
end G

/-! GClr: list.clear. -/
namespace G
open PySem PySem.Spec L2
open Evl (Ex)
section
variable {X : Cx} {W : WX} {pos apos : Pos} {o : Expr} {co : E}
theorem j_gint {x : Str} {i : Int} {pos : Pos} (hg : Gl X x) (hm : ∃ t, X.mg x = some (.int i t)) (hd : (x == ("__debug__" : Str)) = false := by decide) : JE X W (.Name x pos) (.c (.int i)) := by
  obtain ⟨t, hm⟩ := hm
  exact j_glob (v := .int i) hg hm ⟨t, rfl⟩ (fun _ => rfl) hd
end
end G

/-! GExt: list.extend. -/
namespace G
open PySem PySem.Spec L2
open Evl (Ex)
section
variable {X : Cx} {W : WX} {pos apos : Pos} {o e : Expr} {co ce : E}
end
end G

/-! GMisc: dict.clear, max of a list, int of a bool, str of an int, join, list.pop, list.remove. -/
namespace G
open PySem PySem.Spec L2
open Evl (Ex)
def sStrI : Spec := fun ds cs Q _ => ∃ i : Int, ds = [.int i] ∧ i.natAbs.log2 < 1920 ∧ Q (.str (toString i)) cs
def sJoin : Spec := fun ds cs Q _ => ∃ x a, ∃ ys : List Str, ds = [.str a, x] ∧ getL x cs = some (ys.map D.str) ∧ (ys.map (·.length)).sum + ys.length * a.length ≤ 16777216 ∧ Q (.str (Txt.join a ys)) cs
theorem rpL_strs {K : PySem.W.Frag} {wd : Wd} : ∀ {is : List Str} {vs : List V}, RpL K wd (is.map D.str) vs → vs = is.map V.str
  | [], vs, h => h
  | i :: is, vs, h => by
    obtain ⟨v, ws, e, a, b⟩ := h
    rw [e, rpL_strs b, show v = .str i from a]
    rfl
theorem RpL.dropLast {K : PySem.W.Frag} {wd : Wd} {ds : List D} {vs : List V} (h : RpL K wd ds vs) : RpL K wd ds.dropLast vs.dropLast := by
  rw [List.dropLast_eq_take, List.dropLast_eq_take, h.length]
  exact h.take _
section
variable {X : Cx} {W : WX} {pos apos p : Pos} {o a e : Expr} {co ca ce : E}
theorem refn_strI {K : PySem.W.Frag} : RefN K (fun xs H Q => ∃ i, xs = [.int i] ∧ i.natAbs.log2 < 1920 ∧ Q (.str (toString i)) H) sStrI := by
  intro wd F cs H ds vs P PX Q R r hs q
  obtain ⟨i, rfl, hl, hP⟩ := hs
  obtain ⟨v, ev, rv⟩ := r.one
  exact ⟨i, by rw [ev, show v = _ from rv], hl, q wd (.str _) cs _ H (Wd.le.refl _) R rfl hP⟩
theorem j_strI (hg : Gl X "str") (hm : X.mg "str" = none) (ha : JE X W a ca) (h1 : starEach [a] X.env = (false, eval a X.env) :: starEach [] X.env := by rfl) : JE X W (.Call (.Name "str" p) [a] [] pos) (.app sStrI (.cons ca .nil)) :=
  j_bltnTy call_str_int refn_strI hg hm boot_strG (ja_cons ha ja_nil h1) (he := h1) (hpl := rfl)
def chkS (d : D) (_ : Cs) : Prop := ∃ a, d = .str a
theorem j_join (ho : JE X W o co) (ha : JE X W a ca) (hs : starEach [a] X.env = [(false, eval a X.env)] := by rfl) (hbase : attributeBase o "join" X.env (eval o X.env) = eval o X.env := by rfl) (hline : (apos.endLine == pos.line) = true := by rfl) :
    JE X W (.Call (.Attribute o "join" apos) [a] [] pos) (.meth chkS sJoin co (.cons ca .nil)) := by
  obtain ⟨to, p1, r1⟩ := ho
  obtain ⟨ta, p2, r2⟩ := ha
  refine ⟨_, pe_join p1 p2 hs hbase hline, fun wd F τ cs σ H P PX Q R rs h q x => ?_⟩
  refine r1 wd F τ cs σ H _ PX _ R rs h (fun wd1 d c1 v H1 l1 R1 rv h1 => ?_) x
  obtain ⟨⟨z, ez⟩, h1⟩ := h1
  subst ez
  refine ⟨⟨z, rv⟩, ?_⟩
  refine r2 wd1 F τ c1 σ H1 _ PX _ R1 (rs.mono l1) h1 (fun wd2 d2 c2 v2 H2 l2 R2 rv2 h2 => ?_) (x.mono l1)
  obtain ⟨y, a, ys, e, ey, hl, hP⟩ := h2
  simp only [List.cons.injEq, and_true] at e
  obtain ⟨e1, e2⟩ := e
  cases e1
  subst e2
  obtain ⟨b, ws, e3, s, r3⟩ := R2.getL rv2 ey
  subst e3
  have := rpL_strs r3
  subst this
  exact ⟨z, b, ys, rv, rfl, .inl (SqL.of s), hl, q wd2 (.str _) c2 _ H2 (l1.trans l2) R2 rfl hP⟩
end
end G

/-! GKw: calls with keywords. -/
namespace G
open PySem PySem.Spec L2
open Evl (Ex)
theorem permL_vals : ∀ (ix : List Nat) {vs : List V} {us : List Value}, Vals vs us → Vals (permL ix vs) (permL ix us)
  | [], _, _, _ => .nil
  | i :: ix, vs, us, r => by
    have ih := permL_vals ix r
    unfold permL at ih ⊢
    rw [List.filterMap_cons, List.filterMap_cons]
    cases e : vs[i]? with
    | none =>
      rw [r.none_of e]
      exact ih
    | some v =>
      obtain ⟨u, h1, h2⟩ := r.get e
      rw [h1]
      exact .cons h2 ih
theorem RpL.none_of {K : PySem.W.Frag} {wd : Wd} {ds : List D} {vs : List V} {i : Nat} (r : RpL K wd ds vs) (e : ds[i]? = none) : vs[i]? = none := by
  have h := r.length
  have h2 : ds.length ≤ i := List.getElem?_eq_none_iff.mp e
  exact List.getElem?_eq_none_iff.mpr (by omega)
theorem permL_rp {K : PySem.W.Frag} {wd : Wd} : ∀ (ix : List Nat) {ds : List D} {vs : List V}, RpL K wd ds vs → RpL K wd (permL ix ds) (permL ix vs)
  | [], _, _, _ => rfl
  | i :: ix, ds, vs, r => by
    have ih := permL_rp ix r
    unfold permL at ih ⊢
    rw [List.filterMap_cons, List.filterMap_cons]
    cases e : ds[i]? with
    | none =>
      rw [r.none_of e]
      exact ih
    | some v =>
      obtain ⟨u, h1, h2⟩ := r.get e
      rw [h1]
      exact ⟨u, _, rfl, h2, ih⟩
/-- a def called with n values and the keywords ks -/
structure FnK (P : Program) (w : World) (K : PySem.W.Frag) (mg : Str → Option Value) (base : Heap) (x : Str) (k n : Nat) (ks : List Str) (ix : List Nat) (sp : Spec) : Prop where
  ex : ∃ f fd ps, mg x = some (.ref f) ∧ FnOk P w K mg base (L2N.CX P w) k f fd ps (lift K mg sp) ∧ PySem.W.keepIn K (.ref f) = true ∧
    ∀ (s : Shared) (us ws : List Value), us.length = n → ws.length = ks.length → BindsTo s fd ⟨us, ks.zip ws⟩ (ps.zip (permL ix (us ++ ws)))
section
variable {X : Cx} {W : WX} {pos p : Pos} {e : Expr} {es : List Expr} {kws : List Keyword} {ces cks call : Es} {sp : Spec} {x : Str} {k n : Nat} {ks : List Str} {ix : List Nat}
def JK (X : Cx) (W : WX) (kws : List Keyword) (c : Es) : Prop := ∃ ta, PK X kws ta ∧ RefA X W ta c
theorem jk_nil : JK X W [] .nil := ⟨_, pk_nil, fun wd F τ cs σ H P PX Q R r h q x => q wd [] cs [] H (Wd.le.refl _) R rfl h⟩
theorem jk_cons {ce : E} {nm : Option Str} {kpos : Pos} (h1 : JE X W e ce) (h2 : JK X W kws cks) : JK X W (⟨nm, e, kpos⟩ :: kws) (.cons ce cks) := by
  obtain ⟨te, p1, r1⟩ := h1
  obtain ⟨ta, p2, r2⟩ := h2
  refine ⟨_, pk_cons p1 p2, fun wd F τ cs σ H P PX Q R r h q x => ?_⟩
  refine r1 wd F τ cs σ H _ PX _ R r h (fun wd1 d c1 v H1 l1 R1 rv h1 => ?_) x
  refine r2 wd1 F τ c1 σ H1 _ PX _ R1 (r.mono l1) h1 (fun wd2 ds c2 vs H2 l2 R2 rvs h2 => ?_) (x.mono l1)
  exact q wd2 (d :: ds) c2 (v :: vs) H2 (l1.trans l2) R2 ⟨v, vs, rfl, rv.mono l2, rvs⟩ h2
/-- the callee runs -/
theorem run_kw {f : Addr} {fd : FuncData} {ps : List Str} {E : XK} {pins : List (Addr × Obj)} {σ : St} {H : Hp} {s : Shared} {Q : VK} {us ws : List Value} {vs zs : List V} (ok : FnOk X.prog X.w X.K X.mg X.base (L2N.CX X.prog X.w) k f fd ps (lift X.K X.mg sp)) (hr : Room k X.A) (hb : BindsTo s fd ⟨us, ks.zip ws⟩ (ps.zip (permL ix (us ++ ws))))
    (hx : PassesAt (L2N.CX X.prog X.w) X σ E) (I : Inv X pins σ H s) (r : Vals vs us) (rz : Vals zs ws) (h : lift X.K X.mg sp (permL ix (vs ++ zs)) H Q E) : wpAny (model X.prog X.w) X.A (PySem.call (.ref f) us (ks.zip ws)) (EP X pins σ Q) X.xe s := by
  refine wpAny_call (codeAny_mono (ok.run X.A X.stack s H ⟨us, ks.zip ws⟩ _ _ Q E hr I.env0 hb (permL_vals ix (r.append rz)) h) fun res s' hq => ?_)
  cases res with
  | error err => exact hx pins H s err s' I hq
  | ok fl =>
    cases fl with
    | ret u => exact I.after hq
    | next => exact hq.elim
    | brk => exact hq.elim
    | cont => exact hq.elim
theorem j_callk0 (F : FnK X.prog X.w X.K X.mg X.base x k 0 ks ix sp) (hr : Room k X.A) (tk : L2N.Takes X W) (hg : Gl X x) (hk : JK X W kws cks) (hall : (backToKw pos (keywordEach kws X.env)).all (·.1.isSome) = true := by rfl) (hks : (backToKw pos (keywordEach kws X.env)).filterMap (·.1) = ks := by rfl)
    (hdb : (x == ("__debug__" : Str)) = false := by decide) (hpl : ((backTo pos (starEach [] X.env)).any (·.1) || (backToKw pos (keywordEach kws X.env)).any (·.1.isNone)) = false := by rfl) (hlen : kws.length = ks.length := by rfl) :
    JE X W (.Call (.Name x p) [] kws pos) (.appk 0 ks.length ix sp .nil cks) := by
  obtain ⟨f, fd, ps, hm, ok, kp, hb⟩ := F.ex
  obtain ⟨ta, p1, r1⟩ := hk
  refine ⟨fun σ H Q => ta σ H fun zs H2 => zs.length = ks.length ∧ lift X.K X.mg sp (permL ix zs) H2 Q (WE W σ), ⟨fun pins s σ H Q I h => ?_⟩, fun wd F τ cs σ H P PX Q R rs h q x => ?_⟩
  · refine wpAny_Call_Name_kw (ld_glob I hg hm ?_ hdb)
    refine PySem.W.callWith_KW0 (h₀ := X.base) I.ok.mod.kin kp hall (thn (p1.run pos pins s σ H _ I h) fun ws s2 ⟨zs, H2, I2, rz, l2, q2⟩ => ⟨I2.kIn, ?_⟩) hpl
    rw [hks]
    exact run_kw (us := []) (vs := []) ok hr (hb s2 [] ws rfl (rz.length.symm.trans l2)) (L2N.passAt tk σ) I2 .nil rz q2
  · refine r1 wd F τ cs σ H _ PX _ R rs h (fun wd1 ds c1 vs H1 l1 R1 rv h1 => ⟨rv.length.trans h1.2.1, wd1, F, c1, permL ix ds, P, PX, R1, permL_rp ix rv, h1.2.2, q.mono l1, fun wd' y cs' cls dd H' l R' rx z => x wd' y cs' cls dd H' (l1.trans l) R' rx z⟩) x
end
end G

/-! GLib: the core's readings, simplified; the helpers of the laws. -/
namespace G
open PySem (Str)
def iD (ns : List Int) : List D := ns.map D.int
@[simp] theorem put_same {cs : Cs} {n : Nat} {o : Ob} : put cs n o n = some o := if_pos rfl
@[simp] theorem put_put {cs : Cs} {n : Nat} {o o' : Ob} : put (put cs n o) n o' = put cs n o' := by
  funext m
  unfold put
  split <;> rfl
theorem put_ne {cs : Cs} {n m : Nat} {o : Ob} (h : m ≠ n) : put cs n o m = cs m := if_neg h
theorem del_put {cs : Cs} {n : Nat} {o : Ob} (h : cs n = none) : del (put cs n o) n = cs := by
  funext m
  unfold del put
  by_cases e : m = n
  · rw [if_pos e, e, h]
  · rw [if_neg e, if_neg e]
/-! ### how operations read -/
@[simp] theorem sLt_i {i j : Int} {cs : Cs} {Q : KD} {X : KX} : sLt [.int i, .int j] cs Q X = Q (.bl (decide (i < j))) cs := by simp [sLt, sInt, CTrue]
@[simp] theorem sLe_i {i j : Int} {cs : Cs} {Q : KD} {X : KX} : sLe [.int i, .int j] cs Q X = Q (.bl (decide (i ≤ j))) cs := by simp [sLe, sInt, CTrue]
@[simp] theorem sGt_i {i j : Int} {cs : Cs} {Q : KD} {X : KX} : sGt [.int i, .int j] cs Q X = Q (.bl (decide (j < i))) cs := by simp [sGt, sInt, CTrue]
@[simp] theorem sGe_i {i j : Int} {cs : Cs} {Q : KD} {X : KX} : sGe [.int i, .int j] cs Q X = Q (.bl (decide (j ≤ i))) cs := by simp [sGe, sInt, CTrue]
@[simp] theorem sAdd_i {i j : Int} {cs : Cs} {Q : KD} {X : KX} : sAdd [.int i, .int j] cs Q X = Q (.int (i + j)) cs := rfl
@[simp] theorem sSub_i {i j : Int} {cs : Cs} {Q : KD} {X : KX} : sSub [.int i, .int j] cs Q X = Q (.int (i - j)) cs := by simp [sSub, sInt, CTrue]
@[simp] theorem sMul_i {i j : Int} {cs : Cs} {Q : KD} {X : KX} : sMul [.int i, .int j] cs Q X = (mulOk i j ∧ Q (.int (i * j)) cs) := rfl
@[simp] theorem sDiv_i {i j : Int} {cs : Cs} {Q : KD} {X : KX} : sDiv [.int i, .int j] cs Q X = (divOk i j ∧ Q (.int (i / j)) cs) := rfl
@[simp] theorem sMod_i {i j : Int} {cs : Cs} {Q : KD} {X : KX} : sMod [.int i, .int j] cs Q X = (0 < j ∧ Q (.int (i % j)) cs) := rfl
@[simp] theorem sPow_i {i j : Int} {cs : Cs} {Q : KD} {X : KX} : sPow [.int i, .int j] cs Q X = (powOk i j ∧ Q (.int (i ^ j.toNat)) cs) := rfl
@[simp] theorem sMax2_i {i j : Int} {cs : Cs} {Q : KD} {X : KX} : sMax2 [.int i, .int j] cs Q X = Q (.int (if j > i then j else i)) cs := by simp [sMax2, sInt, CTrue]
@[simp] theorem sMin2_i {i j : Int} {cs : Cs} {Q : KD} {X : KX} : sMin2 [.int i, .int j] cs Q X = Q (.int (if j < i then j else i)) cs := by simp [sMin2, sInt, CTrue]
@[simp] theorem getQ_lst {xs : List D} {cs : Cs} : getQ (.lst xs) cs = some xs := rfl
@[simp] theorem getQ_tup {xs : List D} {cs : Cs} : getQ (.tup xs) cs = some xs := rfl
@[simp] theorem getL_lst {xs : List D} {cs : Cs} : getL (.lst xs) cs = some xs := rfl
@[simp] theorem getQ_ref {n : Nat} {cs : Cs} : getQ (.ref n) cs = match cs n with
  | some (.lst xs) => some xs
  | _ => none := rfl
@[simp] theorem getL_ref {n : Nat} {cs : Cs} : getL (.ref n) cs = match cs n with
  | some (.lst xs) => some xs
  | _ => none := rfl
@[simp] theorem sIx_e {x : D} {i : Int} {cs : Cs} {Q : KD} {X : KX} : sIx [x, .int i] cs Q X = match getQ x cs with
    | some xs => match ix xs i with
      | some d => Q d cs
      | none => False
    | none => False := by cases x <;> rfl
@[simp] theorem sSetIx_e {v : D} {n : Nat} {i : Int} {cs : Cs} {Q : KD} {X : KX} : sSetIx [v, .ref n, .int i] cs Q X = match cs n with
    | some (.lst xs) => match ixn xs.length i with
      | some j => Q .non (put cs n (.lst (xs.set j v)))
      | none => False
    | _ => False := rfl
@[simp] theorem sLen_e {x : D} {cs : Cs} {Q : KD} {X : KX} (h : ∀ s, x ≠ .str s) : sLen [x] cs Q X = match getQ x cs with
    | some xs => Q (.int xs.length) cs
    | none => False := by
  cases x with
  | str s => exact absurd rfl (h s)
  | _ => rfl
theorem ix_nat {xs : List D} {i : Nat} {d : D} (h : xs[i]? = some d) : ix xs (i : Int) = some d := by
  have hl : i < xs.length := (List.getElem?_eq_some_iff.mp h).1
  unfold ix ixn
  rw [if_pos (by omega), if_pos (by omega)]
  exact h
theorem ix_last {xs : List D} {d : D} : ix (xs ++ [d]) (-1) = some d := by
  unfold ix ixn
  rw [if_neg (by decide), if_pos (by simp; omega)]
  show (xs ++ [d])[((-1 : Int) + ((xs ++ [d]).length : Nat)).toNat]? = some d
  have e : ((-1 : Int) + ((xs ++ [d]).length : Nat)).toNat = xs.length := by simp; omega
  rw [e]
  simp
@[simp] theorem ix_0 {x : D} {xs : List D} : ix (x :: xs) 0 = some x := ix_nat (i := 0) rfl
@[simp] theorem ix_1 {x y : D} {xs : List D} : ix (x :: y :: xs) 1 = some y := ix_nat (i := 1) rfl
@[simp] theorem ix_2 {x y z : D} {xs : List D} : ix (x :: y :: z :: xs) 2 = some z := ix_nat (i := 2) rfl
@[simp] theorem ix_3 {x y z w : D} {xs : List D} : ix (x :: y :: z :: w :: xs) 3 = some w := ix_nat (i := 3) rfl
@[simp] theorem ixn_0 {n : Nat} : ixn (n + 1) 0 = some 0 := by
  unfold ixn
  rw [if_pos (by omega), if_pos (by omega)]
  rfl
@[simp] theorem ixn_1 {n : Nat} : ixn (n + 1 + 1) 1 = some 1 := by
  unfold ixn
  rw [if_pos (by omega), if_pos (by omega)]
  rfl
@[simp] theorem ixn_2 {n : Nat} : ixn (n + 1 + 1 + 1) 2 = some 2 := by
  unfold ixn
  rw [if_pos (by omega), if_pos (by omega)]
  rfl
@[simp] theorem ixn_3 {n : Nat} : ixn (n + 1 + 1 + 1 + 1) 3 = some 3 := by
  unfold ixn
  rw [if_pos (by omega), if_pos (by omega)]
  rfl
theorem getQ_cell {n : Nat} {cs : Cs} {xs : List D} (h : cs n = some (.lst xs)) : getQ (.ref n) cs = some xs := by
  show (match cs n with
    | some (.lst xs) => some xs
    | _ => none) = _
  rw [h]
/-! ### loops -/
theorem compL_pure {p : Pat} {grd : Cs → Prop} {σ : Sl} {tst elt : Sl → Cs → KD → Prop} {Q : List D → Cs → Prop} {cs : Cs} (q : D → Bool) (f : D → D) (hg : grd cs) : ∀ (items acc : List D),
    (∀ x ∈ items, ∃ σ1, bindP p [x] σ = some σ1 ∧ (∀ K : KD, K (.bl (q x)) cs → tst σ1 cs K) ∧ (q x = true → ∀ K : KD, K (f x) cs → elt σ1 cs K)) →
    acc.length + items.length ≤ lim → Q (acc ++ (items.filter q).map f) cs → compL p grd σ tst elt Q items acc cs
  | [], acc, _, _, hQ => ⟨hg, by simpa using hQ⟩
  | x :: xs, acc, h, hl, hQ => by
    obtain ⟨σ1, hb, ht, he⟩ := h x List.mem_cons_self
    refine ⟨hg, ?_⟩
    rw [hb]
    have ih := fun acc => compL_pure (tst := tst) (elt := elt) (Q := Q) q f hg xs acc fun y hy => h y (List.mem_cons_of_mem _ hy)
    have hl2 : acc.length + (xs.length + 1) ≤ lim := by simpa using hl
    refine ht _ ?_
    cases e : q x with
    | true =>
      refine .inl ⟨rfl, he e _ ⟨by omega, ih _ (by simp; omega) ?_⟩⟩
      simpa [e] using hQ
    | false =>
      refine .inr ⟨rfl, ih _ (by omega) ?_⟩
      simpa [e] using hQ
theorem forL_inv {p : Pat} {grd : Cs → Prop} {body : Sl → Cs → Ends → Prop} {K : Ends} (I : Nat → Sl → Cs → Prop) : ∀ (items : List D) (i : Nat) {σ : Sl} {cs : Cs}, I i σ cs →
    (∀ j σ cs, i ≤ j → j ≤ i + items.length → I j σ cs → grd cs) →
    (∀ j x σ cs, items[j]? = some x → I (i + j) σ cs → ∃ σ1, bindP p [x] σ = some σ1 ∧ ∀ K', (∀ σ' cs', I (i + j + 1) σ' cs' → K'.nx σ' cs') → (∀ σ' cs', I (i + j + 1) σ' cs' → K'.ct σ' cs') → K'.bk = K.nx → K'.rt = K.rt → K'.ex = K.ex → body σ1 cs K') →
    (∀ σ cs, I (i + items.length) σ cs → K.nx σ cs) → forL p grd body K items σ cs
  | [], i, σ, cs, h0, hg, _, hd => ⟨hg i σ cs (Nat.le_refl _) (Nat.le_add_right _ _) h0, hd σ cs h0⟩
  | x :: xs, i, σ, cs, h0, hg, hs, hd => by
    refine ⟨hg i σ cs (Nat.le_refl _) (Nat.le_add_right _ _) h0, ?_⟩
    obtain ⟨σ1, hb, hbody⟩ := hs 0 x σ cs rfl h0
    rw [hb]
    have nxt : ∀ σ' cs', I (i + 1) σ' cs' → forL p grd body K xs σ' cs' := fun σ' cs' h1 =>
      forL_inv I xs (i + 1) h1 (fun j σ cs a b => hg j σ cs (by omega) (by simp at b ⊢; omega)) (fun j x σ cs hj hI => by
        have hI' : I (i + (j + 1)) σ cs := by rw [show i + (j + 1) = i + 1 + j by omega]; exact hI
        have := hs (j + 1) x σ cs (by simpa using hj) hI'
        rw [show i + (j + 1) + 1 = i + 1 + j + 1 by omega] at this
        exact this) fun σ cs h => hd σ cs (by rw [show i + (x :: xs).length = i + 1 + xs.length by simp; omega]; exact h)
    exact hbody _ nxt nxt rfl rfl rfl
/-! ### a draw -/
def drwL (ns : List Int) (p c z : Int) : List D := [.lst (iD ns), .int p, .int c, .int z]
/-- a draw begins -/
def spStartU : Spec := fun ds cs Q _ => ds = [.scr] ∧ ∀ n ns p c z, cs n = none → DrwOk ns p c z → Q (.ref n) (put cs n (.lst (drwL ns p c z)))
def spStart : Spec := fun ds cs Q _ => ds = [.scr] ∧ ∀ n, cs n = none → Q (.ref n) (put cs n .drw)
/-- the draw, its cell open -/
def spTakeU : Spec := fun ds cs Q _ => ∃ n m ns p c z, ds = [.ref n, .int m] ∧ cs n = some (.lst (drwL ns p c z)) ∧ DrwOk ns p c z ∧ 0 < m ∧ m < 2 ^ 200 ∧
  ∀ p' c' z' r, DrwOk ns p' c' z' → 0 ≤ r → r < m → Q (.int r) (put cs n (.lst (drwL ns p' c' z')))
/-- .. closed -/
def spTake : Spec := fun ds cs Q _ => ∃ n m, ds = [.ref n, .int m] ∧ cs n = some .drw ∧ 0 < m ∧ m < 2 ^ 200 ∧ ∀ r, 0 ≤ r → r < m → Q (.int r) cs
/-- an item of a list -/
def spOf : Spec := fun ds cs Q _ => ∃ n x xs, ds = [.ref n, x] ∧ cs n = some .drw ∧ (∀ s, x ≠ .str s) ∧ getQ x cs = some xs ∧ xs ≠ [] ∧ xs.length ≤ lim ∧ ∀ d ∈ xs, Q d cs
theorem pur_in {b : Bool} {k : Nat} {xs : List D} (h : (b && purs k xs) = true) : purs k xs = true := by
  rw [Bool.and_eq_true] at h
  exact h.2
theorem pur_len {n : Nat} {b : Bool} (h : (decide (n ≤ lim) && b) = true) : n ≤ lim := by
  rw [Bool.and_eq_true] at h
  exact of_decide_eq_true h.1
mutual
theorem eqD_refl : ∀ (k : Nat) (x : D), pur k x = true → eqD x x = true
  | _, .non, _ => rfl
  | _, .bl b, _ => by simp [eqD]
  | _, .int i, _ => by simp [eqD]
  | _, .str s, _ => by simp [eqD]
  | 0, .lst _, h => by cases h
  | 0, .tup _, h => by cases h
  | k + 1, .lst xs, h => by
    have h : purs k xs = true := pur_in h
    simp only [eqD]
    exact eqDs_refl k xs h
  | k + 1, .tup xs, h => by
    have h : purs k xs = true := pur_in h
    simp only [eqD]
    exact eqDs_refl k xs h
  | k, .dic _ _, h => by cases k <;> cases h
  | k, .ref _, h => by cases k <;> cases h
  | k, .scr, h => by cases k <;> cases h
theorem eqDs_refl : ∀ (k : Nat) (xs : List D), purs k xs = true → eqDs xs xs = true
  | _, [], _ => rfl
  | k, x :: xs, h => by
    have h : (pur k x && purs k xs) = true := h
    rw [Bool.and_eq_true] at h
    simp only [eqDs, eqD_refl k x h.1, eqDs_refl k xs h.2, Bool.and_self]
end
theorem purs_of {k : Nat} : ∀ {xs : List D}, (∀ x ∈ xs, pur k x = true) → purs k xs = true
  | [], _ => rfl
  | x :: xs, h => by
    show (pur k x && purs k xs) = true
    rw [h x List.mem_cons_self, purs_of fun y hy => h y (List.mem_cons_of_mem _ hy)]
    rfl
theorem asBools_true : ∀ (n : Nat), asBools (List.replicate n (.bl true)) = some (List.replicate n true)
  | 0 => rfl
  | n + 1 => by
    show (asBools (List.replicate n (.bl true))).map (true :: ·) = _
    rw [asBools_true n]
    rfl
end G

/-! GScr: the script cut; slices. -/
namespace G
open PySem PySem.Spec L2
open Evl (Ex)
section
variable {X : Cx} {W : WX} {pos p1 p2 : Pos} {e : Expr} {ce : E}
theorem ints_rp {K : PySem.W.Frag} {wd : Wd} : ∀ ns : List Int, RpL K wd (ns.map D.int) (ns.map V.int)
  | [] => rfl
  | n :: ns => ⟨_, _, rfl, rfl, ints_rp ns⟩
theorem sCutScr_inv {d : D} {cs : Cs} {Q : KD} {PX : KX} (h : sCutScr [d] cs Q PX) : d = .scr ∧ ∀ ns : List Int, ns.length ≤ 63 → (∀ n ∈ ns, n.natAbs < 2 ^ (2 ^ 20)) → Q (.lst (ns.map D.int)) cs := by
  unfold sCutScr at h
  split at h
  · rename_i e
    cases e
    exact ⟨rfl, h⟩
  · exact h.elim
theorem j_cutScr {j : Nat} (he : JE X W e ce) : JE X W (.Subscript e (.Slice none (some (.Constant (.int 63) j p2)) none p1) pos) (.app sCutScr (.cons ce .nil)) := by
  obtain ⟨te, p0, r0⟩ := he
  refine ⟨_, pe_slice sl_list p0 po_none (po_some pe_int), fun wd F τ cs σ H P PX Q R rs h q x => ?_⟩
  refine r0 wd F τ cs σ H _ PX _ R rs h (fun wd1 d c1 v H1 l1 R1 rv h1 => ?_) x
  obtain ⟨ed, h1⟩ := sCutScr_inv (PX := PX) h1
  subst ed
  obtain ⟨a, ns, ev, hs, hl, hb⟩ := rv
  have hcut : cutV (ns.map V.int) none (some 63) = (ns.take (min 63 ns.length)).map V.int := by
    unfold cutV
    simp [HT.sIx, List.map_take]
  refine ⟨63, rfl, a, ns.map V.int, ev, Evl.ex_l R1.b hs, fun p hp => ?_⟩
  rw [hcut]
  obtain ⟨wd2, l2, R2, r2⟩ := R1.lst hp (ints_rp (ns.take (min 63 ns.length)))
  exact q wd2 _ c1 _ _ (l1.trans l2) R2 r2 (h1 _ (by rw [List.length_take]; omega) fun n hn => hb n (List.mem_of_mem_take hn))
end
/-- a cell's content, told otherwise -/
theorem Rl.retell {K : PySem.W.Frag} {wd : Wd} {F H : Hp} {cs cs' : Cs} (R : Rl K wd F cs H) {n : Nat} {o' : Ob} (h : ∀ a u, wd.r n = some a → H a = some u → (∃ o, cs n = some o ∧ RpO K wd o u) → RpO K wd o' u) (hn : ∃ o, cs n = some o) (e' : cs' n = some o') (ne : ∀ m, m ≠ n → cs' m = cs m) : Rl K wd F cs' H := by
  refine ⟨R.b, R.f, R.bf, R.inj, fun m o e => ?_, R.ran, R.top, R.rf, R.fe, R.tab, R.bt⟩
  by_cases hm : m = n
  · subst hm
    rw [e'] at e
    cases e
    obtain ⟨o, ho⟩ := hn
    obtain ⟨a, u, f1, f2, f3, f4, f5⟩ := R.cell m o ho
    exact ⟨a, u, f1, f2, f3, f4, h a u f1 f4 ⟨o, ho, f5⟩⟩
  · rw [ne m hm] at e
    exact R.cell m o e
theorem drw_open {K : PySem.W.Frag} {wd : Wd} {u : HO} (h : RpO K wd .drw u) : ∃ ns p c z, DrwOk ns p c z ∧ RpO K wd (.lst (drwL ns p c z)) u := by
  obtain ⟨ns, p, c, z, a, e, hb, ok⟩ := h
  exact ⟨ns, p, c, z, ok, _, e, _, _, rfl, ⟨a, _, rfl, hb, ints_rp ns⟩, _, _, rfl, rfl, _, _, rfl, rfl, _, _, rfl, rfl, rfl⟩
theorem drw_close {K : PySem.W.Frag} {wd : Wd} {u : HO} {ns : List Int} {p c z : Int} (ok : DrwOk ns p c z) (h : RpO K wd (.lst (drwL ns p c z)) u) : RpO K wd .drw u := by
  obtain ⟨xs, e, v, r, e1, ⟨a, ws, ea, hb, hr⟩, v2, r2, e2, rfl, v3, r3, e3, rfl, v4, r4, e4, rfl, e5⟩ := h
  have : r4 = [] := e5
  subst this e4 e3 e2 e1 e ea
  have hw : ws = ns.map V.int := asInts_V hr (by
    have : ∀ l : List Int, asInts (iD l) = some l := by
      intro l
      induction l with
      | nil => rfl
      | cons x l ih =>
        show (asInts (iD l)).map (x :: ·) = _
        rw [ih]
        rfl
    exact this ns)
  subst hw
  exact ⟨ns, p, c, z, a, rfl, hb, ok⟩
section
variable {P : Program} {w : World} {K : PySem.W.Frag} {mg : Str → Option Value} {base : Heap} {k : Nat} {f : Addr} {fd : FuncData} {ps : List Str}
theorem seal_take (F : FnOk P w K mg base (L2N.CX P w) k f fd ps (lift K mg spTakeU)) : FnOk P w K mg base (L2N.CX P w) k f fd ps (lift K mg spTake) := by
  refine F.imp fun vs H Q E ⟨wd, F, cs, ds, PD, PX, R, r, hs, q, x⟩ => ?_
  obtain ⟨n, m, ed, hc, h0, h1, hk⟩ := hs
  obtain ⟨a, u, f1, f2, f3, f4, f5⟩ := R.cell n _ hc
  obtain ⟨ns, p, c, z, ok, ro⟩ := drw_open f5
  have R' : Rl K wd F (put cs n (.lst (drwL ns p c z))) H := R.retell (n := n) (fun a' u' g1 g2 _ => by
    have : a' = a := Option.some.inj (g1.symm.trans f1)
    subst this
    rw [f4] at g2
    cases g2
    exact ro) ⟨_, hc⟩ (if_pos rfl) fun m hm => if_neg hm
  refine ⟨wd, F, put cs n (.lst (drwL ns p c z)), ds, fun d cs' => (∃ p' c' z', DrwOk ns p' c' z' ∧ cs' = put cs n (.lst (drwL ns p' c' z'))) ∧ PD d cs, fun _ _ => False, R', r, ⟨n, m, ns, p, c, z, ed, if_pos rfl, ok, h0, h1, fun p' c' z' y ok' y0 y1 => ⟨⟨p', c', z', ok', put_put⟩, hk y y0 y1⟩⟩, fun wd' d cs' v H' l R2 rv ⟨⟨p', c', z', ok', e⟩, hp⟩ => ?_, fun _ _ _ _ _ _ _ _ _ z => z.elim⟩
  subst e
  refine q wd' d cs v H' l (R2.retell (n := n) (o' := .drw) (fun a' u' _ _ ⟨o, ho, hr⟩ => ?_) ⟨_, if_pos rfl⟩ hc fun m hm => (if_neg hm).symm) rv hp
  rw [put_same] at ho
  cases ho
  exact drw_close ok' hr
theorem seal_start (F : FnOk P w K mg base (L2N.CX P w) k f fd ps (lift K mg spStartU)) : FnOk P w K mg base (L2N.CX P w) k f fd ps (lift K mg spStart) := by
  refine F.imp fun vs H Q E ⟨wd, F, cs, ds, PD, PX, R, r, hs, q, x⟩ => ?_
  obtain ⟨ed, hk⟩ := hs
  refine ⟨wd, F, cs, ds, fun d cs' => ∃ n ns p c z, cs n = none ∧ DrwOk ns p c z ∧ d = .ref n ∧ cs' = put cs n (.lst (drwL ns p c z)), fun _ _ => False, R, r, ⟨ed, fun n ns p c z hn ok => ⟨n, ns, p, c, z, hn, ok, rfl, rfl⟩⟩, fun wd' d cs' v H' l R2 rv ⟨n, ns, p, c, z, hn, ok, e1, e2⟩ => ?_, fun _ _ _ _ _ _ _ _ _ z => z.elim⟩
  subst e1 e2
  refine q wd' (.ref n) (put cs n .drw) v H' l (R2.retell (n := n) (o' := .drw) (fun a' u' _ _ ⟨o, ho, hr⟩ => ?_) ⟨_, if_pos rfl⟩ put_same fun m hm => (if_neg hm).trans (if_neg hm).symm) rv (hk n hn)
  rw [put_same] at ho
  cases ho
  exact drw_close ok hr
end
end G

/-! GMore: slices, reversed, repeated, sorted lists; what is not reached. -/
namespace G
open PySem PySem.Spec L2
open Evl (Ex)
def cutD (xs : List D) (lo hi : Option Int) : List D := (xs.drop (sIxAt xs.length 0 lo)).take (sIxAt xs.length xs.length hi - sIxAt xs.length 0 lo)
def sRev : Spec := fun ds cs Q _ => match ds with
  | [x] => match getL x cs with
    | some xs => Q (.lst xs.reverse) cs
    | none => False
  | _ => False
theorem RpL.reverse {K : PySem.W.Frag} {wd : Wd} : ∀ {ds : List D} {vs : List V}, RpL K wd ds vs → RpL K wd ds.reverse vs.reverse
  | [], vs, h => by
    have e : vs = [] := h
    subst e
    exact rfl
  | d :: ds, vs, h => by
    obtain ⟨v, r, e, a, b⟩ := h
    subst e
    rw [List.reverse_cons, List.reverse_cons]
    exact (RpL.reverse b).append ⟨v, [], rfl, a, rfl⟩
section
variable {X : Cx} {W : WX} {pos p1 p2 p3 p : Pos} {a b c e : Expr} {ca cb cc : E} {K : PySem.W.Frag}
theorem cut_rp {wd : Wd} {ds : List D} {vs : List V} (r : RpL K wd ds vs) (lo hi : Option Int) : RpL K wd (cutD ds lo hi) (cutV vs lo hi) := by
  have e : ∀ (n d : Nat) (o : Option Int), sIxAt n d o = HT.sIx n d o := fun n d o => by cases o <;> rfl
  unfold cutD cutV
  rw [r.length, e, e]
  exact (r.drop _).take _
end
end G

/-! GSplit: text.split(sep), int(text). -/
namespace L2
open PySem PySem.Spec PyProof.Rows
theorem op_mul_strS {X : Cx} : OpR X (binaryOp .Mult) (fun x y H Q => ∃ (a : Str) (n : Int), x = .str a ∧ y = .int n ∧ MulOk a n ∧ Q (.str (Txt.mul a n)) H) := by
  intro pins s σ H x y v u Q I rx ry h
  obtain ⟨a, n, rfl, rfl, hz, q⟩ := h
  obtain ⟨t, rfl⟩ := rx
  obtain ⟨t', rfl⟩ := ry
  exact SB.mul hz fun t' k => ⟨.str (Txt.mul a n), H, I.tok _, ⟨_, rfl⟩, q⟩
end L2
namespace G
open PySem PySem.Spec L2
open Evl (Ex)
def sMulS : Spec := fun ds cs Q _ => ∃ (a : Str) (n : Int), ds = [.str a, .int n] ∧ MulOk a n ∧ Q (.str (Txt.mul a n)) cs
def sSplit : Spec := fun ds cs Q _ => ∃ a b, ds = [.str a, .str b] ∧ (b.length == 0) = false ∧ a.length + 2 ≤ 16777216 ∧ Q (.lst ((Txt.split a b).map D.str)) cs
def sIntS : Spec := fun ds cs Q _ => ∃ a n, ds = [.str a] ∧ PySem.intText? a = some n ∧ a.length ≤ 640 ∧ Q (.int n) cs
section
variable {X : Cx} {W : WX} {pos p p1 p2 apos : Pos} {o a : Expr} {co ca : E}
theorem rpl_strs {K : PySem.W.Frag} {wd : Wd} : ∀ ys : List Str, RpL K wd (ys.map D.str) (ys.map V.str)
  | [] => rfl
  | y :: ys => ⟨_, _, rfl, rfl, rpl_strs ys⟩
theorem j_split (ho : JE X W o co) (ha : JE X W a ca) (hs : starEach [a] X.env = [(false, eval a X.env)] := by rfl) (hbase : attributeBase o "split" X.env (eval o X.env) = eval o X.env := by rfl) (hline : (apos.endLine == pos.line) = true := by rfl) :
    JE X W (.Call (.Attribute o "split" apos) [a] [] pos) (.meth chkS sSplit co (.cons ca .nil)) := by
  obtain ⟨to, p1, r1⟩ := ho
  obtain ⟨ta, p2, r2⟩ := ha
  refine ⟨_, pe_split p1 p2 hs hbase hline, fun wd F τ cs σ H P PX Q R rs h q x => ?_⟩
  refine r1 wd F τ cs σ H _ PX _ R rs h (fun wd1 d c1 v H1 l1 R1 rv h1 => ?_) x
  obtain ⟨⟨z, ez⟩, h1⟩ := h1
  subst ez
  refine ⟨⟨z, rv⟩, ?_⟩
  refine r2 wd1 F τ c1 σ H1 _ PX _ R1 (rs.mono l1) h1 (fun wd2 d2 c2 v2 H2 l2 R2 rv2 h2 => ?_) (x.mono l1)
  obtain ⟨y, b, e, hb, hl, hP⟩ := h2
  simp only [List.cons.injEq, and_true] at e
  obtain ⟨e1, e2⟩ := e
  cases e1
  subst e2
  cases (show v = .str z from rv)
  cases (show v2 = .str b from rv2)
  refine ⟨z, b, rfl, rfl, hb, hl, fun p hp => ?_⟩
  obtain ⟨wd3, l3, R3, r3⟩ := R2.lst hp (rpl_strs (Txt.split z b))
  exact q wd3 _ c2 _ _ ((l1.trans l2).trans l3) R3 r3 hP
theorem ref_mulS {K : PySem.W.Frag} : Ref2 K (fun x y H Q => ∃ (a : Str) (n : Int), x = .str a ∧ y = .int n ∧ MulOk a n ∧ Q (.str (Txt.mul a n)) H) sMulS := by
  intro wd F cs H x y v w P PX Q R rx ry hs q
  obtain ⟨a, n, e, h1, h⟩ := hs
  simp only [List.cons.injEq, and_true] at e
  obtain ⟨rfl, rfl⟩ := e
  cases (show v = .str a from rx)
  cases (show w = .int n from ry)
  exact ⟨a, n, rfl, rfl, h1, q wd (.str _) cs _ H (Wd.le.refl _) R rfl h⟩
theorem j_mulS {b : Expr} {cb : E} (ha : JE X W a ca) (hb : JE X W b cb) : JE X W (.BinOp a .Mult b pos) (.app sMulS (.cons ca (.cons cb .nil))) := by
  obtain ⟨ta, p1, r1⟩ := ha
  obtain ⟨tb, p2, r2⟩ := hb
  exact ⟨_, pe_op op_mul_strS p1 p2, ref_bin ref_mulS r1 r2⟩
theorem refn_intS {K : PySem.W.Frag} : RefN K (fun xs H Q => ∃ a n, xs = [.str a] ∧ PySem.intText? a = some n ∧ a.length ≤ 640 ∧ Q (.int n) H) sIntS := by
  intro wd F cs H ds vs P PX Q R rv hs q
  obtain ⟨z, n, e, h1, h2, hP⟩ := hs
  subst e
  obtain ⟨v, vs', ev, r, rs⟩ := rv
  subst ev
  cases (show v = .str z from r)
  cases (show vs' = [] from rs)
  exact ⟨z, n, rfl, h1, h2, q wd (.int n) cs _ H (Wd.le.refl _) R rfl hP⟩
theorem j_intS (hg : Gl X "int") (hm : X.mg "int" = none) (ha : JE X W a ca) (h1 : starEach [a] X.env = (false, eval a X.env) :: starEach [] X.env := by rfl) : JE X W (.Call (.Name "int" p) [a] [] pos) (.app sIntS (.cons ca .nil)) :=
  j_bltnTy call_int_str refn_intS hg hm boot_intG (ja_cons ha ja_nil h1) (he := h1) (hpl := rfl)
end
end G

/-! GCutA: slices of lists, cells, tuples (the whole of a tuple too), texts. -/
namespace G
open PySem PySem.Spec L2
open Evl (Ex)
def sSlA (lo hi : Option Int) (x : D) (cs : Cs) (Q : KD) : Prop := match x with
  | .tup xs => Q (.tup (cutD xs lo hi)) cs
  | .str z => z.length ≤ lim ∧ Q (.str (Txt.slice z lo hi)) cs
  | x => match getL x cs with
    | some xs => Q (.lst (cutD xs lo hi)) cs
    | none => False
def sCutHiA : Spec := fun ds cs Q _ => ∃ x, ∃ i : Int, ds = [x, .int i] ∧ sSlA none (some i) x cs Q
def sCutLoA : Spec := fun ds cs Q _ => ∃ x, ∃ i : Int, ds = [x, .int i] ∧ sSlA (some i) none x cs Q
section
variable {X : Cx} {W : WX} {pos p1 p2 p3 p : Pos} {a b c e : Expr} {ca cb cc : E} {K : PySem.W.Frag}
theorem cut_all {xs : List D} {lo hi : Option Int} (h : sIxAt xs.length 0 lo = 0 ∧ sIxAt xs.length xs.length hi = xs.length) : cutD xs lo hi = xs := by
  unfold cutD
  rw [h.1, h.2]
  simp
theorem ref_slA {wd : Wd} {F H : Hp} {cs : Cs} {x : D} {v : V} {lo hi : Option Int} {P : KD} {Q : VK} (R : Rl K wd F cs H) (rv : Rp K wd x v) (h : sSlA lo hi x cs P) (q : QOk K wd F P Q) : rSlL K v lo hi H Q ∨ rSlA K v lo hi H Q ∨ C8.rSlX v lo hi H Q := by
  have byL : (match getL x cs with
      | some xs => P (.lst (cutD xs lo hi)) cs
      | none => False) → rSlL K v lo hi H Q := fun h => by
    cases ex : G.getL x cs with
    | none =>
      rw [ex] at h
      exact h.elim
    | some xs =>
      rw [ex] at h
      obtain ⟨a, ws, ev, hs, r⟩ := R.getL rv ex
      refine ⟨a, ws, ev, SqL.of hs, fun p hp => ?_⟩
      obtain ⟨wd2, l2, R2, r2⟩ := R.lst hp (cut_rp r lo hi)
      exact q wd2 _ cs _ _ l2 R2 r2 h
  cases x with
  | tup xs =>
    obtain ⟨a, ws, ev, hs, r⟩ := id rv
    have e : ∀ (n d : Nat) (o : Option Int), sIxAt n d o = HT.sIx n d o := fun n d o => by cases o <;> rfl
    refine .inr (.inl ⟨a, ws, ev, SqT.of (R.b _ _ hs), fun hw => ?_, fun hw p hp => ?_⟩)
    · rw [← e, ← e, r.length] at hw
      have h : P (.tup (cutD xs lo hi)) cs := h
      rw [cut_all hw] at h
      subst ev
      exact q wd (.tup xs) cs _ H (Wd.le.refl _) R rv h
    · obtain ⟨wd2, l2, R2, r2⟩ := R.tup hp (cut_rp r lo hi)
      exact q wd2 _ cs _ _ l2 R2 r2 h
  | str z =>
    have ev : v = .str z := rv
    exact .inr (.inr ⟨z, ev, h.1, q wd (.str _) cs _ H (Wd.le.refl _) R rfl h.2⟩)
  | lst xs => exact .inl (byL h)
  | ref n => exact .inl (byL h)
  | _ => exact h.elim
theorem j_cutHiA (ha : JE X W a ca) (hb : JE X W b cb) : JE X W (.Subscript a (.Slice none (some b) none p2) pos) (.app sCutHiA (.cons ca (.cons cb .nil))) := by
  obtain ⟨ta, q1, r1⟩ := ha
  obtain ⟨tb, q2, r2⟩ := hb
  refine ⟨_, pe_slice (sl_list.or (sl_tupA.or C8.sl_txt)) q1 po_none (po_some q2), fun wd F τ cs σ H P PX Q R rs h q x => ?_⟩
  refine r1 wd F τ cs σ H _ PX _ R rs h (fun wd1 d c1 v H1 l1 R1 rv h1 => ?_) x
  refine r2 wd1 F τ c1 σ H1 _ PX _ R1 (rs.mono l1) h1 (fun wd2 e c2 u H2 l2 R2 ru h2 => ?_) (x.mono l1)
  obtain ⟨y, i, ei, h3⟩ := h2
  cases ei
  exact ⟨i, ru, ref_slA R2 (rv.mono l2) h3 (q.mono (l1.trans l2))⟩
theorem j_cutLoA (ha : JE X W a ca) (hb : JE X W b cb) : JE X W (.Subscript a (.Slice (some b) none none p2) pos) (.app sCutLoA (.cons ca (.cons cb .nil))) := by
  obtain ⟨ta, q1, r1⟩ := ha
  obtain ⟨tb, q2, r2⟩ := hb
  refine ⟨_, pe_slice (sl_list.or (sl_tupA.or C8.sl_txt)) q1 (po_some q2) po_none, fun wd F τ cs σ H P PX Q R rs h q x => ?_⟩
  refine r1 wd F τ cs σ H _ PX _ R rs h (fun wd1 d c1 v H1 l1 R1 rv h1 => ?_) x
  refine r2 wd1 F τ c1 σ H1 _ PX _ R1 (rs.mono l1) h1 (fun wd2 e c2 u H2 l2 R2 ru h2 => ?_) (x.mono l1)
  obtain ⟨y, i, ei, h3⟩ := h2
  cases ei
  exact ⟨i, ru, ref_slA R2 (rv.mono l2) h3 (q.mono (l1.trans l2))⟩
end
end G

namespace G
open PySem (Str)
def c_take_1 : S := (.asg (.nm 2) (.app sIx (.cons (.app sIx (.cons (.v 0) (.cons (.c (.int 0)) .nil))) (.cons (.app sIx (.cons (.v 0) (.cons (.c (.int 1)) .nil))) .nil))))
def c_take_2 : S := (.exp (.app sSetIx (.cons (.app sAdd (.cons (.app sIx (.cons (.v 0) (.cons (.c (.int 1)) .nil))) (.cons (.c (.int 1)) .nil))) (.cons (.v 0) (.cons (.c (.int 1)) .nil)))))
def c_take_3 : S := (.exp (.app sSetIx (.cons (.c (.int 0)) (.cons (.v 0) (.cons (.c (.int 2)) .nil)))))
def c_take_4 : S := (.exp (.app sSetIx (.cons (.v 2) (.cons (.v 0) (.cons (.c (.int 2)) .nil)))))
def c_take_5 : S := (.ite (.app sGe (.cons (.v 2) (.cons (.app sPow (.cons (.c (.int 10)) (.cons (.c (.int 18)) .nil))) .nil))) (c_take_4) .skip)
def c_take_6 : S := (.exp (.app sSetIx (.cons (.app sMod (.cons (.app sAdd (.cons (.app sAdd (.cons (.app sMul (.cons (.app sIx (.cons (.v 0) (.cons (.c (.int 3)) .nil))) (.cons (.c (.int 52711)) .nil))) (.cons (.app sMul (.cons (.app sMod (.cons (.v 2) (.cons (.c (.int 2305843009213693951)) .nil))) (.cons (.c (.int 7)) .nil))) .nil))) (.cons (.app sIx (.cons (.v 0) (.cons (.c (.int 1)) .nil))) .nil))) (.cons (.c (.int 2305843009213693951)) .nil))) (.cons (.v 0) (.cons (.c (.int 3)) .nil)))))
def c_take_7 : S := (.ite (.and (.app sLt (.cons (.app sIx (.cons (.v 0) (.cons (.c (.int 2)) .nil))) (.cons (.v 1) .nil))) (.app sLt (.cons (.app sIx (.cons (.v 0) (.cons (.c (.int 1)) .nil))) (.cons (.app sLen (.cons (.app sIx (.cons (.v 0) (.cons (.c (.int 0)) .nil))) .nil)) .nil)))) (.seq (c_take_1) (.seq (c_take_2) (.seq (c_take_3) (.seq (c_take_5) (c_take_6))))) .skip)
def c_take_8 : S := (.asg (.nm 3) (.app sMod (.cons (.app sIx (.cons (.v 0) (.cons (.c (.int 2)) .nil))) (.cons (.v 1) .nil))))
def c_take_9 : S := (.exp (.app sSetIx (.cons (.app sDiv (.cons (.app sIx (.cons (.v 0) (.cons (.c (.int 2)) .nil))) (.cons (.v 1) .nil))) (.cons (.v 0) (.cons (.c (.int 2)) .nil)))))
def c_take_10 : S := (.ret (.v 3))
def c_take_11 : S := (.ite (.app sGe (.cons (.app sIx (.cons (.v 0) (.cons (.c (.int 2)) .nil))) (.cons (.v 1) .nil))) (.seq (c_take_8) (.seq (c_take_9) (c_take_10))) .skip)
def c_take_12 : S := (.asg (.nm 4) (.app sMod (.cons (.app sMul (.cons (.app sIx (.cons (.v 0) (.cons (.c (.int 3)) .nil))) (.cons (.app sIx (.cons (.v 0) (.cons (.c (.int 3)) .nil))) .nil))) (.cons (.c (.int 2305843009213693951)) .nil))))
def c_take_13 : S := (.exp (.app sSetIx (.cons (.app sMod (.cons (.app sAdd (.cons (.app sAdd (.cons (.app sMul (.cons (.v 4) (.cons (.c (.int 48271)) .nil))) (.cons (.app sMul (.cons (.app sIx (.cons (.v 0) (.cons (.c (.int 3)) .nil))) (.cons (.c (.int 16807)) .nil))) .nil))) (.cons (.c (.int 12345)) .nil))) (.cons (.c (.int 2305843009213693951)) .nil))) (.cons (.v 0) (.cons (.c (.int 3)) .nil)))))
def c_take_14 : S := (.ret (.app sMod (.cons (.app sDiv (.cons (.app sIx (.cons (.v 0) (.cons (.c (.int 3)) .nil))) (.cons (.c (.int 1021)) .nil))) (.cons (.v 1) .nil))))
def c_take : S := (.seq (c_take_7) (.seq (c_take_11) (.seq (c_take_12) (.seq (c_take_13) (c_take_14)))))
theorem mulOk_r {i j : Int} (h : -(2 ^ 64) < j ∧ j < 2 ^ 64) : mulOk i j := .inr (.inl h)
theorem DrwOk.set {ns : List Int} {p c z : Int} (ok : DrwOk ns p c z) {p' c' z' : Int} (hp : 0 ≤ p') (hc : 0 ≤ c') (hz : 0 ≤ z') (hz1 : z' < 2305843009213693951) : DrwOk ns p' c' z' := ⟨ok.len, ok.big, hp, hc, hz, hz1⟩
theorem take_log {m : Int} (h : 0 < m) (h2 : m < 2 ^ 200) : m.natAbs.log2 < 9000 := by
  have : m.natAbs ≠ 0 := by omega
  exact Nat.lt_trans ((Nat.log2_lt this).mpr (show m.natAbs < 2 ^ 200 by omega)) (by decide)
theorem take_tail {cs : Cs} {Q : KD} {X : KX} {n : Nat} {m : Int} {ns : List Int} {p c z : Int} {t2 : Option D} (hc : cs n = some (.lst (drwL ns p c z))) (ok : DrwOk ns p c z) (hm : 0 < m) (hm2 : m < 2 ^ 200)
    (k : ∀ p' c' z' r, DrwOk ns p' c' z' → 0 ≤ r → r < m → Q (.int r) (put cs n (.lst (drwL ns p' c' z')))) :
    wpS (.seq c_take_11 (.seq c_take_12 (.seq c_take_13 c_take_14))) [some (.ref n), some (.int m), t2, none, none] cs { nx := fun _ cs' => Q .non cs', rt := Q, ex := fun x _ cs' => X x cs' } := by
  have z0 := ok.z0
  have z1 := ok.z1
  have r0 : ∀ x : Int, 0 ≤ x % m := fun x => Int.emod_nonneg _ (by omega)
  have r1 : ∀ x : Int, x % m < m := fun x => Int.emod_lt_of_pos _ hm
  have q0 : ∀ x : Int, 0 ≤ x % 2305843009213693951 := fun x => Int.emod_nonneg _ (by decide)
  have q1 : ∀ x : Int, x % 2305843009213693951 < 2305843009213693951 := fun x => Int.emod_lt_of_pos _ (by decide)
  simp only [wpS]
  rw [c_take_11]
  simp [hc, drwL]
  split
  · rw [c_take_8, c_take_9, c_take_10]
    simp [hc, drwL]
    refine ⟨hm, ⟨hm, take_log hm hm2⟩, ?_⟩
    exact k p (c / m) z (c % m) (ok.set ok.p0 (Int.ediv_nonneg ok.c0 (by omega)) z0 z1) (r0 _) (r1 _)
  · rw [c_take_12, c_take_13, c_take_14]
    simp [hc, drwL]
    refine ⟨mulOk_r (by omega), mulOk_r (by omega), mulOk_r (by omega), ⟨by decide, by decide⟩, hm, ?_⟩
    exact k p c _ _ (ok.set ok.p0 ok.c0 (q0 _) (q1 _)) (r0 _) (r1 _)
theorem ok_take : okFn 5 c_take spTakeU := by
  rintro ds cs Q X ⟨n, m, ns, p, c, z, rfl, hc, ok, hm, hm2, k⟩
  show wpS (.seq c_take_7 (.seq c_take_11 (.seq c_take_12 (.seq c_take_13 c_take_14)))) [some (.ref n), some (.int m), none, none, none] cs _
  have p0 := ok.p0
  have z0 := ok.z0
  have z1 := ok.z1
  have q0 : ∀ x : Int, 0 ≤ x % 2305843009213693951 := fun x => Int.emod_nonneg _ (by decide)
  have q1 : ∀ x : Int, x % 2305843009213693951 < 2305843009213693951 := fun x => Int.emod_lt_of_pos _ (by decide)
  have tl := fun (cs' : Cs) (t2 : Option D) (p' c' z' : Int) (hc' : cs' n = some (.lst (drwL ns p' c' z'))) (ok' : DrwOk ns p' c' z') (k' : ∀ p' c' z' r, DrwOk ns p' c' z' → 0 ≤ r → r < m → Q (.int r) (put cs' n (.lst (drwL ns p' c' z')))) => take_tail (X := X) (t2 := t2) hc' ok' hm hm2 k'
  simp only [wpS] at tl
  simp only [wpS]
  rw [c_take_7]
  simp [hc, drwL]
  split
  · split
    · rename_i h1 h2
      obtain ⟨j, rfl⟩ : ∃ j : Nat, p = j := ⟨p.toNat, by omega⟩
      have hl : (iD ns).length = ns.length := by simp [iD]
      have hj : j < ns.length := by omega
      have hix : ix (iD ns) (j : Int) = some (.int ns[j]) := ix_nat (by simp [iD, hj])
      rw [c_take_1, c_take_2, c_take_3]
      simp [hc, drwL, hix]
      rw [c_take_5]
      simp [hc, drwL, hix]
      refine ⟨by unfold powOk; omega, ?_⟩
      split
      · rw [c_take_4, c_take_6]
        simp [hc, drwL, hix]
        refine ⟨mulOk_r (by omega), mulOk_r (by omega), ?_⟩
        refine tl _ _ _ _ _ put_same (ok.set (by omega) (by omega) (q0 _) (q1 _)) fun p' c' z' r o' a b => ?_
        rw [put_put]
        exact k p' c' z' r o' a b
      · rw [c_take_6]
        simp [hc, drwL, hix]
        refine ⟨mulOk_r (by omega), mulOk_r (by omega), ?_⟩
        refine tl _ _ _ _ _ put_same (ok.set (by omega) (by omega) (q0 _) (q1 _)) fun p' c' z' r o' a b => ?_
        rw [put_put]
        exact k p' c' z' r o' a b
    · exact tl _ _ _ _ _ hc ok k
  · exact tl _ _ _ _ _ hc ok k
end G

namespace G
open PySem (Str)
def c_of_1 (p__law_take : G.Spec) : S := (.ret (.app sIx (.cons (.v 1) (.cons (.app p__law_take (.cons (.v 0) (.cons (.app sLen (.cons (.v 1) .nil)) .nil))) .nil))))
def c_of (p__law_take : G.Spec) : S := (c_of_1 p__law_take)
def c_same_1 (p__law_same : G.Spec) : S := (.ret (.app sIsN (.cons (.v 0) (.cons (.c .non) .nil))))
def c_same_2 (p__law_same : G.Spec) : S := (.ite (.app sIsN (.cons (.v 1) (.cons (.c .non) .nil))) (c_same_1 p__law_same) .skip)
def c_same_3 (p__law_same : G.Spec) : S := (.ret (.c (.bl false)))
def c_same_4 (p__law_same : G.Spec) : S := (.ite (.or (.app sNe (.cons (.app (sIsi .list) (.cons (.v 0) .nil)) (.cons (.app (sIsi .list) (.cons (.v 1) .nil)) .nil))) (.app sNe (.cons (.app (sIsi .tuple) (.cons (.v 0) .nil)) (.cons (.app (sIsi .tuple) (.cons (.v 1) .nil)) .nil)))) (c_same_3 p__law_same) .skip)
def c_same_5 (p__law_same : G.Spec) : S := (.ret (.and (.app sEq (.cons (.app sLen (.cons (.v 0) .nil)) (.cons (.app sLen (.cons (.v 1) .nil)) .nil))) (.app sAll (.cons (.comp false [2, 3] (.tup (.cons (.nm 2) (.cons (.nm 3) .nil))) iZip (.cons (.v 0) (.cons (.v 1) .nil)) (.c (.bl true)) (.app p__law_same (.cons (.v 2) (.cons (.v 3) .nil)))) .nil))))
def c_same_6 (p__law_same : G.Spec) : S := (.ite (.app (sIsi2 .list .tuple) (.cons (.v 1) .nil)) (.seq (c_same_4 p__law_same) (c_same_5 p__law_same)) .skip)
def c_same_7 (p__law_same : G.Spec) : S := (.ret (.c (.bl false)))
def c_same_8 (p__law_same : G.Spec) : S := (.ite (.or (.app sNe (.cons (.app (sIsi .bool) (.cons (.v 1) .nil)) (.cons (.app (sIsi .bool) (.cons (.v 0) .nil)) .nil))) (.app sNe (.cons (.app (sIsi .int) (.cons (.v 1) .nil)) (.cons (.app (sIsi .int) (.cons (.v 0) .nil)) .nil)))) (c_same_7 p__law_same) .skip)
def c_same_9 (p__law_same : G.Spec) : S := (.ret (.and (.app sEq (.cons (.app (sIsi .str) (.cons (.v 1) .nil)) (.cons (.app (sIsi .str) (.cons (.v 0) .nil)) .nil))) (.app sEq (.cons (.v 0) (.cons (.v 1) .nil)))))
def c_same (p__law_same : G.Spec) : S := (.seq (c_same_2 p__law_same) (.seq (c_same_6 p__law_same) (.seq (c_same_8 p__law_same) (c_same_9 p__law_same))))
theorem ok_of : okFn 2 (c_of spTake) spOf := by
  rintro ds cs Q X ⟨n, x, xs, rfl, hc, hx, hq, ne, hl, k⟩
  show wpS (c_of_1 spTake) [some (.ref n), some x] cs _
  rw [c_of_1]
  simp [sLen_e hx, hq]
  have l0 : 0 < xs.length := List.length_pos_iff.mpr ne
  refine ⟨n, xs.length, rfl, hc, by omega, by simp [lim] at hl; omega, fun r h0 h1 => ?_⟩
  obtain ⟨j, rfl⟩ : ∃ j : Nat, r = j := ⟨r.toNat, by omega⟩
  have hj : j < xs.length := by omega
  simp [hq, ix_nat (List.getElem?_eq_getElem hj)]
  exact k _ (List.getElem_mem hj)
@[simp] theorem sIsN_e {x : D} {cs : Cs} {Q : KD} {X : KX} : sIsN [x, .non] cs Q X = Q (.bl (isN x)) cs := rfl
@[simp] theorem sNotN_e {x : D} {cs : Cs} {Q : KD} {X : KX} : sNotN [x, .non] cs Q X = Q (.bl (!isN x)) cs := rfl
@[simp] theorem sIsi_e {t : Ty} {x : D} {cs : Cs} {Q : KD} {X : KX} : sIsi t [x] cs Q X = match isTy cs x t with
    | some b => Q (.bl b) cs
    | none => False := rfl
@[simp] theorem sIsi2_e {t t' : Ty} {x : D} {cs : Cs} {Q : KD} {X : KX} : sIsi2 t t' [x] cs Q X = match isTy cs x t, isTy cs x t' with
    | some a, some b => Q (.bl (a || b)) cs
    | _, _ => False := rfl
theorem sEq_e {x y : D} {cs : Cs} {Q : KD} {X : KX} : sEq [x, y] cs Q X = (pur 64 (deref cs x) = true ∧ pur 64 (deref cs y) = true ∧ Q (.bl (eqD (deref cs x) (deref cs y))) cs) := rfl
theorem sNe_e {x y : D} {cs : Cs} {Q : KD} {X : KX} : sNe [x, y] cs Q X = (pur 64 (deref cs x) = true ∧ pur 64 (deref cs y) = true ∧ Q (.bl (!eqD (deref cs x) (deref cs y))) cs) := rfl
@[simp] theorem sEq_i {i j : Int} {cs : Cs} {Q : KD} {X : KX} : sEq [.int i, .int j] cs Q X = Q (.bl (i == j)) cs := by simp [sEq, deref, pur, eqD]
@[simp] theorem sNe_i {i j : Int} {cs : Cs} {Q : KD} {X : KX} : sNe [.int i, .int j] cs Q X = Q (.bl (!(i == j))) cs := by simp [sNe, deref, pur, eqD]
@[simp] theorem sEq_b {i j : Bool} {cs : Cs} {Q : KD} {X : KX} : sEq [.bl i, .bl j] cs Q X = Q (.bl (i == j)) cs := by simp [sEq, deref, pur, eqD]
@[simp] theorem sNe_b {i j : Bool} {cs : Cs} {Q : KD} {X : KX} : sNe [.bl i, .bl j] cs Q X = Q (.bl (!(i == j))) cs := by simp [sNe, deref, pur, eqD]
@[simp] theorem sAll_e {x : D} {cs : Cs} {Q : KD} {X : KX} : sAll [x] cs Q X = match getL x cs with
    | some xs => match asBools xs with
      | some bs => Q (.bl (bs.all id)) cs
      | none => False
    | none => False := rfl
theorem map_const {α : Type} {d : D} : ∀ xs : List α, xs.map (fun _ => d) = List.replicate xs.length d
  | [] => rfl
  | x :: xs => by simp [map_const xs, List.replicate_succ]
end G

/-! GTxi: a text's sign at a place; an item of a list or of a text. -/
namespace G
open PySem PySem.Spec L2
def sIxA : Spec := fun ds cs Q X => (∃ z, ∃ i : Int, ∃ c, ds = [.str z, .int i] ∧ z.length ≤ lim ∧ atI z.cps.toList i = some c ∧ Q (.str ⟨#[c]⟩) cs) ∨ sIx ds cs Q X
section
variable {X : Cx} {W : WX} {pos : Pos} {a b : Expr} {ca cb : E}
def rIxAS (K : PySem.W.Frag) : R2 := fun x y H Q => rIxS x y H Q ∨ rIxA K x y H Q
theorem ref_ixA : Ref2 X.K (rIxAS X.K) sIxA := by
  intro wd F cs H x y v w P PX Q R rx ry hs q
  rcases hs with ⟨z, i, c, e, hl, hc, hP⟩ | hs
  · cases e
    have ev : v = .str z := rx
    have ew : w = .int i := ry
    exact .inl ⟨z, i, c, ev, ew, hl, hc, q wd (.str _) cs _ H (Wd.le.refl _) R rfl hP⟩
  · exact .inr (ref_ix wd F cs H x y v w P PX Q R rx ry hs q)
theorem j_ixA (ha : JE X W a ca) (hb : JE X W b cb) (hs : PlainIx b := by exact fun _ _ => rfl) : JE X W (.Subscript a b pos) (.app sIxA (.cons ca (.cons cb .nil))) := by
  obtain ⟨ta, p1, r1⟩ := ha
  obtain ⟨tb, p2, r2⟩ := hb
  exact ⟨_, pe_ix (ix_str.or (ix_list.or ix_tup)) p1 p2 hs, ref_bin ref_ixA r1 r2⟩
end
/-! an item drawn -/
end G

/-! GEnum: enumerate over lists and tuples. -/
namespace G
open PySem PySem.Spec L2
open Evl (Ex)
abbrev tIt (l : Addr) : Obj := { cls := .type "tuple_iterator", data := .fields #[.ref l, .int 0 0] }
abbrev eOb (i : Addr) : Obj := { cls := .type "enumerate", data := .fields #[.none, .bool false, .ref i, rawInt 0, .none, .none] }
open AutoSeq1 (wpAny_loadPart') in
theorem new_enumT (l : Addr) (items : Array Value) (n : Nat) (dct : Option Addr) (sl : Array (Option Value)) :
    Meets (Builtin.«enumerate.__new__» ⟨[.type "enumerate", .ref l], []⟩) (fun _ R s => s.heap.get? l = some ⟨.type "tuple", dct, .seq items n, sl⟩ ∧
      R (.ok (.ret (.ref (s.heap.push (tIt l)).objs.size))) { s with heap := (s.heap.push (tIt l)).push (eOb s.heap.objs.size) }) := by
  refine .of_wp fun prog w A R s h => ?_
  obtain ⟨hp, gs, dr, tk, os⟩ := s
  obtain ⟨hl, h⟩ := h
  have sub := sub_enumerate
  have isT : Heap.IsTuple (Shared.heap ⟨hp, gs, dr, tk, os⟩) l items := ⟨_, hl, rfl, n, rfl⟩
  wp_walk using wpAny_loadPart' hl
  refine wpAny_stack_any fun st => wpAny_pure ?_
  split
  · rename_i c _ _ _ _ _
    cases (c == Value.type "enumerate") <;> (wp_walk using wpAny_loadPart' hl, wpAny_pyIter_tuple isT; exact ⟨_, rfl, h⟩)
  · wp_walk using wpAny_loadPart' hl, wpAny_pyIter_tuple isT
    exact ⟨_, rfl, h⟩
theorem call_enumT {prog : Program} {w : World} {A : Around} {E : Value → Shared → Prop} {s : Shared} {l : Addr} {items : Array Value} {Q : Value → Shared → Prop} (hT : s.heap.IsTuple l items)
    (h : ∀ h', IsEnum h' (s.heap.objs.size + 1) s.heap.objs.size 0 .none → h'.IsTupleIter s.heap.objs.size l 0 → (∀ b o, s.heap.get? b = some o → h'.get? b = some o) → Q (.ref (s.heap.objs.size + 1)) { s with heap := h' }) :
    wpAny (model prog w) A (PySem.call (.type "enumerate") [.ref l]) Q E s := by
  obtain ⟨⟨c, dct, dt, sl⟩, hl, hc, n, hd⟩ := hT
  have hc : c = .type "tuple" := hc
  have hd : dt = .seq items n := hd
  subst hc
  subst hd
  refine callType_new F.called_enumerate (by decide) (F.typeCall_enumerate_1 _) (F.newCall_enumerate_1 _) (fun obj => F.args_object_init_2 obj _) F.entry_enumerate_new (new_enumT l items n dct sl) ⟨hl, ?_⟩
  have hz : (s.heap.push (tIt l)).objs.size = s.heap.objs.size + 1 := Heap.size_push ..
  show _ ∧ _
  rw [hz]
  have he : IsEnum ((s.heap.push (tIt l)).push (eOb s.heap.objs.size)) (s.heap.objs.size + 1) s.heap.objs.size 0 .none := by
    have q := Heap.get?_push_size (s.heap.push (tIt l)) (o := eOb s.heap.objs.size) rfl
    rw [hz] at q
    exact q
  exact ⟨⟨_, he, rfl⟩, h _ he ⟨_, Heap.get?_push_of_some _ (Heap.get?_push_size _ rfl), rfl, rfl⟩ fun b o x => Heap.get?_push_of_some _ (Heap.get?_push_of_some _ x)⟩
/-- the tuple at a, each item in a new pair -/
def IteT (K : PySem.W.Frag) (a : Addr) : It :=
  ⟨fun i H => ∃ (xs : List V) (x : V), SqT K H a xs ∧ xs[i]? = some x, fun i H v H' => ∃ T x, v = .ref T ∧ H T = none ∧ H' = upd H T (.tup [.int (i : Nat), x]) ∧ ∀ xs, SqT K H a xs → xs[i]? = some x, fun i H => ∃ xs : List V, SqT K H a xs ∧ i = xs.length⟩
theorem turn_enumT {P : Program} {w : World} {K : PySem.W.Frag} {elts : List Expr} {kk : Nat} {tpos : Pos} (a e it : Addr) (hai : a ≠ it) (hae : a ≠ e) :
    Turn P w K (.Tuple elts kk tpos) (IteT K a) [e, it] e (fun i h => (∃ old, IsEnum h e it ((i : Nat) : Int) old) ∧ h.IsTupleIter it a i ∧ e ≠ it) := by
  have two : ∀ b, b ∈ [e, it] → b = e ∨ b = it := fun b hb => by simpa using hb
  refine ⟨by simp, ?obj, ?keep, ?item, ?done, ?self⟩
  case obj =>
    intro i h st b hb
    obtain ⟨⟨old, he⟩, ⟨o, ho, hc, hd⟩, _⟩ := st
    rcases two b hb with z | z
    · rw [z]
      exact ⟨_, he, fun v q => nomatch q⟩
    · rw [z]
      exact ⟨o, ho, fun v q => by rw [hd] at q; cases q⟩
  case keep =>
    intro i h h' st k
    obtain ⟨⟨old, he⟩, hi, hne⟩ := st
    exact ⟨⟨old, k e (by simp) _ he⟩, hi.at fun o q => k it (by simp) o q, hne⟩
  case self =>
    intro A i s Q E st h
    obtain ⟨⟨_, he⟩, _⟩ := st
    exact wpAny_pyIter_enum he h
  case item =>
    intro X hP hw hK hc i pins s σ H E I hf st hg
    subst hP hw hK
    obtain ⟨⟨old, he⟩, hit, hne⟩ := st
    obtain ⟨xs, x, hq, hx⟩ := hg
    obtain ⟨its, rv, p, hz⟩ := I.tuple hq
    obtain ⟨u, hu, ru⟩ := rv.get hx
    have hel : e < s.heap.objs.size := Heap.lt_size he
    have hil : it < s.heap.objs.size := by obtain ⟨_, q, _⟩ := hit; exact Heap.lt_size q
    have hh : X.A.in1.handled = none := by
      have := I.ok.hd hc
      first | exact this | simpa using this
    have D := Draws.tuple (prog := X.prog) (w := X.w) (A := X.A.in1) hh it a hai its.toArray
    refine wpAny_pyNext_enum_itemD D he ⟨hit, show s.heap.IsTuple a its.toArray from p⟩ (by rw [List.size_toArray]; exact (List.getElem?_eq_some_iff.mp hu).1) hne (by simp [hne, Ne.symm hae]) fun y h' tk hy ho hst hT hsz hk => ?_
    have hy : y = u := by
      have : some y = some u := by rw [← hu, ← hy]; simp
      exact Option.some.inj this
    subst hy
    refine ⟨_, rfl, wpAny_letOwnedTupleGo_enum (s := { s with heap := h', toks := tk + 1 }) ho fun h2 he2 sb => ?_⟩
    have hT2 : h2.get? s.heap.objs.size = some { cls := .type "tuple", data := .seq #[.int i tk, y] } := (sb.2 _ (Nat.ne_of_gt hel)).trans hT
    have new : ObjOk X.prog X.w (upd H s.heap.objs.size (.tup [.int (i : Nat), x])) h2 s.heap.objs.size (.tup [.int (i : Nat), x]) :=
      ⟨by show 2 ≤ sizeLine; decide, [.int i tk, y], .cons ⟨_, rfl⟩ (.cons ru .nil), ⟨_, hT2, rfl, _, rfl⟩⟩
    have fin : ∀ b, b ∈ [e, it] → b < s.heap.objs.size := fun b hb => by
      rcases two b hb with z | z
      · rw [z]; exact hel
      · rw [z]; exact hil
    have I1 : Inv X pins σ (upd H s.heap.objs.size (.tup [.int (i : Nat), x])) { s with heap := h2, toks := tk + 1 } :=
      I.turnedNew (ch := [e, it]) (fun b ob hb q => (sb.2 b (fun z => hb (by simp [z]))).trans (hk b ob (fun z => hb (by simp [z])) (fun z => hb (by simp [z])) q)) hf (Nat.le_refl _) new
    refine ⟨.ref s.heap.objs.size, _, I1, rfl, ⟨_, x, rfl, I.hok.fresh (Nat.le_refl _), rfl, fun ys hy => by rw [I.tuple_inj hy hq]; exact hx⟩, ⟨⟨y, ?_⟩, hst.1.at fun o q => (sb.2 it (Ne.symm hne)).trans q, hne⟩, fun b hb => ?_⟩
    · have e1 : ((i + 1 : Nat) : Int) = (i : Int) + 1 := by omega
      rw [e1]
      exact he2
    · rw [upd_ne (Nat.ne_of_lt (fin b hb))]
      exact (hf b hb).1
  case done =>
    intro X hP hw hK hc i pins s σ H E I hf st hg
    subst hP hw hK
    obtain ⟨⟨old, he⟩, hit, hne⟩ := st
    obtain ⟨xs, hq, hx⟩ := hg
    obtain ⟨its, rv, p, hz⟩ := I.tuple hq
    obtain ⟨f0, f1, f2, f3, f4, f5⟩ := hf it (by simp)
    have hh : X.A.in1.handled = none := by
      have := I.ok.hd hc
      first | exact this | simpa using this
    have D := Draws.tuple (prog := X.prog) (w := X.w) (A := X.A.in1) hh it a hai its.toArray
    have en : i = its.toArray.size := by rw [List.size_toArray, ← rv.length]; exact hx
    refine wpAny_pyNext_enum_endD D he ⟨by rw [← en]; exact hit, show s.heap.IsTuple a its.toArray from p⟩ fun h' eb => ⟨rfl, I.turned (t' := s.toks) (fun b o hb q => eb b o hb q) f0 f1 f3 f4 f5⟩
end G
namespace G
open PySem PySem.Spec L2
open Evl (Ex)
section
variable {X : Cx} {W : WX} {pos p tpos : Pos} {e : Expr} {ce : E} {elts : List Expr} {kk : Nat}
def iEnumA (K : PySem.W.Frag) (ta : TA) : TI := fun σ H R => ta σ H fun vs H1 => ∃ a, vs = [.ref a] ∧ (((∃ xs, SqL K H1 a xs) ∧ R (Ite K a) H1) ∨ ((∃ xs, SqT K H1 a xs) ∧ R (IteT K a) H1))
theorem pi_enumA {ta : TA} (hg : Gl X "enumerate") (hm : X.mg "enumerate" = none) (ha : PA X [e] ta) (hs : starEach [e] X.env = [(false, eval e X.env)] := by rfl) : PI X (.Tuple elts kk tpos) (.Call (.Name "enumerate" p) [e] [] pos) (iEnumA X.K ta) := by
  refine ⟨fun pins s σ H R I h => ?_⟩
  refine PyProof.Rows.Call_ (ld_blt I hg hm PyProof.Rows.boot_enumerate (PyProof.Rows.callWith_type1 (thn (ha.run pos pins s σ H _ I h) fun us s1 ⟨vs, H1, I1, r1, q1⟩ => ?_) hs rfl))
  obtain ⟨a, ex, q⟩ := q1
  subst ex
  have fresh : ∀ b, b ∈ [s1.heap.objs.size + 1, s1.heap.objs.size] → FpOk X pins H1 b := fun b hb => by
    have hle : s1.heap.objs.size ≤ b := by
      rcases (show b = s1.heap.objs.size + 1 ∨ b = s1.heap.objs.size by simpa using hb) with z | z <;> omega
    exact I1.fpOk hle (I1.hok.fresh hle)
  cases r1 with
  | cons r rr =>
    cases rr
    cases r
    rcases q with ⟨⟨xs, hq⟩, q⟩ | ⟨⟨xs, hq⟩, q⟩
    · obtain ⟨its, rv, pl, hz⟩ := I1.list hq
      refine call_enumerate_list pl.isList fun h' he hit hsz hk => wpAny_pyIter_enum he ?_
      exact ⟨s1.heap.objs.size + 1, [s1.heap.objs.size + 1, s1.heap.objs.size], _, _, H1, rfl, I1.kept (t' := s1.toks) hk, turn_enum a _ _, ⟨⟨.none, he⟩, hit, Nat.succ_ne_self _⟩, fresh, q⟩
    · obtain ⟨its, rv, pl, hz⟩ := I1.tuple hq
      have hT : s1.heap.IsTuple a its.toArray := pl
      have hlt : a < s1.heap.objs.size := by
        obtain ⟨o, ho, _⟩ := hT
        exact Heap.lt_size ho
      refine call_enumT hT fun h' he hit hk => wpAny_pyIter_enum he ?_
      exact ⟨s1.heap.objs.size + 1, [s1.heap.objs.size + 1, s1.heap.objs.size], _, _, H1, rfl, I1.kept (t' := s1.toks) hk, turn_enumT a _ _ (Nat.ne_of_lt hlt) (Nat.ne_of_lt (Nat.lt_succ_of_lt hlt)), ⟨⟨.none, he⟩, hit, Nat.succ_ne_self _⟩, fresh, q⟩
theorem enumD_get : ∀ {xs : List D} {n : Int} {i : Nat} {d : D}, (enumD n xs)[i]? = some d → ∃ x, xs[i]? = some x ∧ d = .tup [.int (n + i), x]
  | [], _, _, _, h => by simp [enumD] at h
  | x :: xs, n, 0, d, h => by
    simp [enumD] at h
    exact ⟨x, rfl, by rw [← h]; simp⟩
  | x :: xs, n, i + 1, d, h => by
    obtain ⟨y, h1, h2⟩ := enumD_get (xs := xs) (n := n + 1) (i := i) (d := d) (by simpa [enumD] using h)
    refine ⟨y, by simpa using h1, ?_⟩
    rw [h2, show n + 1 + (i : Int) = n + ((i + 1 : Nat) : Int) by omega]
theorem enumD_length : ∀ (xs : List D) (n : Int), (enumD n xs).length = xs.length
  | [], _ => rfl
  | x :: xs, n => by simp [enumD, enumD_length xs]
theorem pair_new {K : PySem.W.Frag} {wd : Wd} {F H : Hp} {cs : Cs} (R : Rl K wd F cs H) {T : Addr} (hT : H T = none) {i : Nat} {x : D} {v : V} (r : Rp K wd x v) : ∃ wd', wd.le wd' ∧ Rl K wd' F cs (upd H T (.tup [.int (i : Nat), v])) ∧ Rp K wd' (.tup [.int (0 + (i : Nat)), x]) (.ref T) := by
  obtain ⟨wd', l, R', q⟩ := R.tup hT (ds := [.int (0 + (i : Nat)), x]) (vs := [.int (i : Nat), v]) ⟨_, _, rfl, by rw [Int.zero_add]; exact rfl, _, _, rfl, r, rfl⟩
  exact ⟨wd', l, R', q⟩
theorem itOk_enumL {wd : Wd} {F : Hp} {xs : List D} {grd : Cs → Prop} {a : Addr} (h : ∀ wd' F' cs' H', wd.le wd' → Rl X.K wd' F' cs' H' → grd cs' → ∃ vs, H' a = some (.lst vs) ∧ RpL X.K wd' xs vs) : ItOk X wd F (enumD 0 xs) grd (Ite X.K a) := by
  refine ⟨fun wd' F' cs H i d l R g hd => ?_, fun wd' F' cs H l R g => ?_⟩
  · obtain ⟨x, hx, e⟩ := enumD_get hd
    subst e
    obtain ⟨vs, hv, r⟩ := h wd' F' cs H l R g
    obtain ⟨v, h1, h2⟩ := r.get hx
    refine ⟨⟨vs, v, SqL.of hv, h1⟩, fun y H' ⟨T, z, ey, hT, eH, hz⟩ => ?_⟩
    subst ey eH
    have q := hz vs (SqL.of hv)
    rw [h1] at q
    cases q
    exact pair_new R hT h2
  · obtain ⟨vs, hv, r⟩ := h wd' F' cs H l R g
    exact ⟨vs, SqL.of hv, by rw [r.length, enumD_length]; exact Nat.le_refl _⟩
theorem itOk_enumT {wd : Wd} {F : Hp} {xs : List D} {grd : Cs → Prop} {a : Addr} (h : ∀ wd' F' cs' H', wd.le wd' → Rl X.K wd' F' cs' H' → ∃ vs, SqT X.K H' a vs ∧ RpL X.K wd' xs vs) : ItOk X wd F (enumD 0 xs) grd (IteT X.K a) := by
  refine ⟨fun wd' F' cs H i d l R g hd => ?_, fun wd' F' cs H l R g => ?_⟩
  · obtain ⟨x, hx, e⟩ := enumD_get hd
    subst e
    obtain ⟨vs, hv, r⟩ := h wd' F' cs H l R
    obtain ⟨v, h1, h2⟩ := r.get hx
    refine ⟨⟨vs, v, hv, h1⟩, fun y H' ⟨T, z, ey, hT, eH, hz⟩ => ?_⟩
    subst ey eH
    have q := hz vs hv
    rw [h1] at q
    cases q
    exact pair_new R hT h2
  · obtain ⟨vs, hv, r⟩ := h wd' F' cs H l R
    exact ⟨vs, hv, by rw [r.length, enumD_length]⟩
theorem ji_enum (hg : Gl X "enumerate") (hm : X.mg "enumerate" = none) (h : JE X W e ce) (hs : starEach [e] X.env = [(false, eval e X.env)] := by rfl) (h1 : starEach [e] X.env = (false, eval e X.env) :: starEach [] X.env := by rfl) : JI X W (.Tuple elts kk tpos) (.Call (.Name "enumerate" p) [e] [] pos) iEnum (.cons ce .nil) := by
  obtain ⟨ta, p1, r1⟩ := ja_cons h ja_nil h1
  refine ⟨_, pi_enumA hg hm p1 hs, fun wd F τ cs σ H R' PX Q R rs h q x => ?_⟩
  refine r1 wd F τ cs σ H _ PX _ R rs h (fun wd1 ds c1 vs H1 l1 R1 rv h1 => ?_) x
  obtain ⟨d, ed, h2⟩ : ∃ d, ds = [d] ∧ (match getQ d c1 with
      | some xs => R' (enumD 0 xs) (grdL d c1) c1
      | none => False) := by
    unfold iEnum at h1
    split at h1
    · exact ⟨_, rfl, h1⟩
    · exact h1.elim
  subst ed
  obtain ⟨v, ev, rd⟩ := rv.one
  subst ev
  cases eq : getQ d c1 with
  | none =>
    rw [eq] at h2
    exact h2.elim
  | some xs =>
    rw [eq] at h2
    rcases getQ_cases eq with ed | el
    · subst ed
      obtain ⟨a, ev, st⟩ := R1.staysT rd
      subst ev
      obtain ⟨vs, hv, _⟩ := st wd1 F c1 H1 (Wd.le.refl _) R1
      exact ⟨a, rfl, .inr ⟨⟨vs, hv⟩, q wd1 _ _ c1 _ H1 l1 R1 (itOk_enumT st) h2⟩⟩
    · obtain ⟨a, ev, st⟩ := R1.staysL rd el
      subst ev
      obtain ⟨vs, hv, _⟩ := st wd1 F c1 H1 (Wd.le.refl _) R1 (by unfold grdL; split <;> trivial)
      exact ⟨a, rfl, .inl ⟨⟨vs, SqL.of hv⟩, q wd1 _ _ c1 _ H1 l1 R1 (itOk_enumL st) h2⟩⟩
end
end G

/-! GSet: set(list of ints), sorted. -/
namespace G
open PySem PySem.Spec L2
section
variable {P : Program} {w : World} {A : Around} {E : Value → Shared → Prop} {s : Shared}
end
end G

/-! GSort: sorted(set(..)), sorted(..), [..] * n; what is not reached. -/
namespace G
open PySem PySem.Spec L2
open Evl (Ex)
/-- a statement that is not reached -/
def stuck : S := .asg .nil (.c .non)
@[simp] theorem stuck_wp {σ : Sl} {cs : Cs} {K : Ends} : wpS stuck σ cs K = False := rfl
theorem nodup_len : ∀ (n : Nat) (l : List Int), l.Nodup → (∀ k ∈ l, 0 ≤ k ∧ k < (n : Int)) → l.length ≤ n
  | 0, l, _, h => by
    cases l with
    | nil => exact Nat.le_refl _
    | cons x r =>
      have := h x List.mem_cons_self
      omega
  | n + 1, l, hn, h => by
    have h2 := nodup_len n (l.erase (n : Int)) (hn.erase _) fun k hk => by
      have h3 := hn.mem_erase_iff.mp hk
      have h4 := h k h3.2
      have h5 := h3.1
      omega
    have h6 := List.length_erase (a := (n : Int)) (l := l)
    split at h6 <;> omega
section
variable {X : Cx} {W : WX} {pos p p' q : Pos} {a b e : Expr} {ca cb ce : E} {K : PySem.W.Frag}
theorem rep_rp {wd : Wd} {ds : List D} {vs : List V} (r : RpL K wd ds vs) : ∀ n : Nat, RpL K wd (List.replicate n ds).flatten (List.replicate n vs).flatten
  | 0 => rfl
  | n + 1 => by
    rw [List.replicate_succ, List.replicate_succ, List.flatten_cons, List.flatten_cons]
    exact r.append (rep_rp r n)
theorem ref_rep : Ref2 X.K rRep sRep := by
  intro wd F cs H x y v w P PX Q R rx ry h q
  unfold sRep at h
  split at h
  · rename_i x' k ee
    cases ee
    have ew : w = .int k := ry
    subst ew
    cases ex : G.getL x cs with
    | none =>
      rw [ex] at h
      exact h.elim
    | some xs =>
      rw [ex] at h
      obtain ⟨h1, h2, h3, h4⟩ := h
      obtain ⟨a, ws, ev, hs, r⟩ := R.getL rx ex
      refine ⟨a, k, ws, ev, rfl, hs, h1, h2, by rw [r.length, sizeL]; exact h3, fun p hp => ?_⟩
      obtain ⟨wd3, l3, R3, r3⟩ := R.lst hp (rep_rp r k.toNat)
      exact q wd3 _ cs _ _ l3 R3 r3 h4
  · exact h.elim
theorem ref_repM : Ref2 X.K rRep sRepM := by
  intro wd F cs H x y v w P PX Q R rx ry h q
  unfold sRepM at h
  split at h
  · rename_i x' k ee
    cases ee
    have ew : w = .int k := ry
    subst ew
    cases ex : G.getL x cs with
    | none =>
      rw [ex] at h
      exact h.elim
    | some xs =>
      rw [ex] at h
      obtain ⟨h1, h2, h3, h4⟩ := h
      obtain ⟨a, ws, ev, hs, r⟩ := R.getL rx ex
      refine ⟨a, k, ws, ev, rfl, hs, h1, h2, by rw [r.length, sizeL]; exact h3, fun p hp => ?_⟩
      obtain ⟨n, wd3, hn, l3, R3, r3⟩ := R.cellL hp (rep_rp r k.toNat)
      exact q wd3 _ _ _ _ l3 R3 r3 (h4 n hn)
  · exact h.elim
theorem j_rep (ha : JE X W a ca) (hb : JE X W b cb) : JE X W (.BinOp a .Mult b pos) (.app sRep (.cons ca (.cons cb .nil))) := j_op op_rep ref_rep ha hb
theorem j_repM (ha : JE X W a ca) (hb : JE X W b cb) : JE X W (.BinOp a .Mult b pos) (.app sRepM (.cons ca (.cons cb .nil))) := j_op op_rep ref_repM ha hb
end
end G

/-! GTxt: texts walked; one sign in a text. -/
namespace G
open PySem PySem.Spec L2
open Evl (Ex)
def sgD (x : Str) : List D := x.cps.toList.map fun c => .str ⟨#[c]⟩
def iStr : ISpec := fun ds _ R => ∃ x, ds = [.str x] ∧ R (sgD x) fun _ => True
/-- one sign in a text -/
def sInStr : Spec := fun ds cs Q _ => ∃ (c : Nat) (z : Str), ds = [.str ⟨#[c]⟩, .str z] ∧ Q (.bl (decide (c ∈ z.cps.toList))) cs
section
variable {X : Cx} {W : WX} {pos p : Pos} {e a b tg : Expr} {ce ca cb : E}
theorem ji_str (h : JE X W e ce) : JI X W tg e iStr (.cons ce .nil) := by
  obtain ⟨te, p1, r1⟩ := h
  refine ⟨_, pi_str p1, fun wd F τ cs σ H R' PX R Rr rs h k x => ?_⟩
  refine r1 wd F τ cs σ H _ PX _ Rr rs h (fun wd1 d c1 v H1 l1 R1 rv h1 => ?_) x
  obtain ⟨z, ed, h1⟩ := h1
  simp only [List.cons.injEq, and_true] at ed
  subst ed
  have ev : v = .str z := rv
  refine ⟨z, ev, k wd1 _ _ c1 _ H1 l1 R1 ⟨fun wd' F' cs' H' i d le R2 _ hd => ?_, fun wd' F' cs' H' le R2 _ => ?_⟩ h1⟩
  · unfold sgD at hd
    rw [List.getElem?_map] at hd
    obtain ⟨c, hc, rfl⟩ := Option.map_eq_some_iff.mp hd
    have hi : i < z.cps.toList.length := (List.getElem?_eq_some_iff.mp hc).1
    refine ⟨show i < z.cps.size by simpa using hi, fun xv H2 y => ?_⟩
    obtain ⟨eH, c', e1, ex⟩ := y
    have : c' = c := by
      rw [Array.getElem?_toList] at hc
      rw [hc] at e1
      exact (Option.some.inj e1).symm
    subst this eH ex
    exact ⟨wd', Wd.le.refl _, R2, rfl⟩
  · show z.cps.size ≤ (sgD z).length
    unfold sgD
    simp
theorem ref_inStr {K : PySem.W.Frag} : Ref2 K (fun x y H Q => ∃ (c : Nat) (z : Str), x = .str ⟨#[c]⟩ ∧ y = .str z ∧ Q (.bl (decide (c ∈ z.cps.toList))) H) sInStr := by
  intro wd F cs H x y v w P PX Q R rx ry hs q
  obtain ⟨c, z, ed, hP⟩ := hs
  simp only [List.cons.injEq, and_true] at ed
  obtain ⟨e1, e2⟩ := ed
  subst e1 e2
  exact ⟨c, z, rx, ry, q wd (.bl _) cs _ H (Wd.le.refl _) R rfl hP⟩
theorem j_inStr (ha : JE X W a ca) (hb : JE X W b cb) (hm : behindInMarks .In b = false := by rfl) : JE X W (.Compare a [.In] [b] pos) (.app sInStr (.cons ca (.cons cb .nil))) := j_cmp op_in_sign ref_inStr ha hb hm
end
end G

/-! GInD: in, not in over lists of trees. -/
namespace G
open PySem PySem.Spec L2
open Evl (Ex)
section
variable {X : Cx} {W : WX} {pos : Pos} {a b c e : Expr} {ca cb cc ce : E} {K : PySem.W.Frag}
end
end G

/-! GExc: own exceptions whose __init__ stores a tag and a field, over any built-in base; raise. -/
namespace G
open PySem PySem.Spec L2
open Evl (Ex)
/-- an own exception class over a built-in one -/
structure XcC (K : PySem.W.Frag) (C : Addr) : Prop where
  base : ∃ (B newId initId : String) (bmB : List Value), ExcBaseFacts B newId initId bmB ∧ StoreFacts B bmB "object.__setattr__" "object" ∧ PySem.W.excInitIn K C bmB newId = true ∧ PySem.W.excOver K C bmB = true
  hd : PySem.W.hasDictIn K C = true
  sa : PySem.W.findIn K (.ref C) "__setattr__" = some (some (.builtin "object.__setattr__"))
  exC : PySem.W.subIn K (.ref C) (.type "BaseException") = some true
  tyC : PySem.W.typeIn K (.ref C) = some (.type "type")
  kC : PySem.W.keepIn K (.ref C) = true
theorem xcB_ok {K : PySem.W.Frag} {C : Addr} (h : xcB K C = true) : XcC K C := by
  unfold xcB at h
  simp only [Bool.and_eq_true, decide_eq_true_eq] at h
  obtain ⟨h1, h2, h3, h4, h5, h6⟩ := h
  refine ⟨?_, h2, h3, h4, h5, h6⟩
  obtain ⟨q, hq, e⟩ := List.any_eq_true.mp h1
  rw [Bool.and_eq_true] at e
  simp only [xcBases, List.mem_cons, List.not_mem_nil, or_false] at hq
  rcases hq with hq | hq | hq
  · subst hq
    exact ⟨_, _, _, _, F.excBase_ValueError, F.store_ValueError, e.1, e.2⟩
  · subst hq
    exact ⟨_, _, _, _, F.excBase_LookupError, F.store_LookupError, e.1, e.2⟩
  · subst hq
    exact ⟨_, _, _, _, F.excBase_IndexError, F.store_IndexError, e.1, e.2⟩
theorem taker_none {K : PySem.W.Frag} {C : Addr} {f : Str} (h : PySem.W.findIn K (.ref C) f = some none) : PySem.W.takerIn K C f = some none := by
  unfold PySem.W.takerIn
  rw [h]
  rfl
theorem cls_hd {K : PySem.W.Frag} {C : Addr} (h : PySem.W.hasDictIn K C = true) : ∃ cd, PySem.W.clsIn K C = some cd ∧ cd.hasDict = true := by
  unfold PySem.W.hasDictIn at h
  cases e : PySem.W.clsIn K C with
  | none => rw [e] at h; cases h
  | some cd => rw [e] at h; exact ⟨cd, rfl, h⟩
section
variable {X : Cx} {pins : List (Addr × Obj)} {σ : St} {H : Hp} {s : Shared} {a C dx : Addr} {f : Str} {y : V} {u : Value} {fs : List (Str × V)} {Q : Unit → Shared → Prop} {E : Value → Shared → Prop} {A : Around}
/-- the first field of a new exception -/
theorem xs_new (T : XcC X.K C) (I : Inv X pins σ H s) (e : H a = some (exo a C none)) (hno : PySem.W.findIn X.K (.ref C) f = some none) (ry : RelV y u)
    (h : ∀ dx s', H dx = none → dx ≠ a → Inv X pins σ (upd (upd H dx (exd dx [(f, y)])) a (exo a C (some dx))) s' → Q () s') : wpAny (model X.prog X.w) A (setAttr (.ref a) f u) Q E s := by
  obtain ⟨B, newId, initId, bmB, FB, SF, T1, T2⟩ := T.base
  obtain ⟨cd, hcl, hdd⟩ := cls_hd T.hd
  obtain ⟨t1, ho⟩ := exo_at I.hok e
  obtain ⟨hp, g, d, t, os⟩ := s
  have hxs : a ≠ hp.objs.size := Nat.ne_of_lt (Heap.lt_size ho)
  have IA : PySem.W.InstAt hp a { cls := .ref C, dict := none, data := .fields #[.ref t1, .none, .none, .none, .bool false, .none] } C none := ⟨ho, rfl, rfl, trivial⟩
  refine PySem.W.set_plain I.kIn (ox := { cls := .ref C, dict := none, data := .fields #[.ref t1, .none, .none, .none, .bool false, .none] }) (od := none) IA T.sa ?_
  have fin : ∀ h' tk' dx, (∀ b o, b ≠ a → hp.get? b = some o → h'.get? b = some o) → hp.objs.size ≤ dx → dx ≠ a → h'.get? a = some ({ cls := .ref C, dict := some dx, data := .fields #[.ref t1, .none, .none, .none, .bool false, .none] } : Obj) →
      h'.Ns1 dx (fun z => if z = f then some u else none) → Q () ⟨h', g, d, tk', os⟩ := fun h' tk' dx k dn dne hx hn => by
    have hnd : H dx = none := I.hok.fresh dn
    have nd : ∀ {b : Addr} {o : Obj}, hp.get? b = some o → b ≠ dx := fun {b o} q => Nat.ne_of_lt (Nat.lt_of_lt_of_le (Heap.lt_size q) dn)
    have na : ∀ {b : Addr}, H b = none → b ≠ a := fun {b} n z => by
      rw [z, e] at n
      cases n
    have U : Un X.fs [] H (upd (upd H dx (exd dx [(f, y)])) a (exo a C (some dx))) hp h' := by
      constructor
      · exact fun b o q n _ _ => k b o (na n) q
      · exact fun b o q n _ _ => ⟨o.slots, k b o (na n) q⟩
      · exact fun b o q n _ => by rw [upd_ne (na n), upd_ne (nd q)]; exact n
      · intro b o q _
        by_cases hb : b = a
        · exact ⟨_, by rw [hb]; exact hx⟩
        · exact ⟨o, k b o hb q⟩
      · exact fun b xs q => by rw [upd_ne (at_ne e q exo_tup), upd_ne (ne_of_none q hnd)]; exact q
      · exact fun b o v q => by rw [upd_ne (at_ne e q exo_frz), upd_ne (ne_of_none q hnd)]; exact q
      · exact fun b ps q => ⟨#[], by rw [upd_ne (at_ne e q exo_tbl), upd_ne (ne_of_none q hnd), q]; simp⟩
    refine h dx _ hnd dne (I.un (t' := tk') U fun b o q => ?_)
    by_cases hb : b = a
    · subst hb
      rw [upd_same] at q
      cases q
      exact exo_ok hx
    · rw [upd_ne hb] at q
      by_cases hd : b = dx
      · subst hd
        rw [upd_same] at q
        cases q
        exact exd_ok hn (relO_put (fs := []) ry fun g => True.intro)
      · rw [upd_ne hd] at q
        refine (I.hok b o q).stay (fun c v hc z => k c v ?_ z) (fun c hc => ?_) (fun c xs hc => ?_)
        · rcases hc with hc | hc
          · rw [hc]
            exact hb
          · exact at_ne e hc exo_own
        · rw [upd_ne (at_ne e hc exo_own), upd_ne (ne_of_none hc hnd)]
          exact hc
        · rw [upd_ne (at_ne e hc exo_tup), upd_ne (ne_of_none hc hnd)]
          exact hc
  refine PySem.W.osa_openX (s := ⟨hp, g, d, t + 1, os⟩) SF I.kIn IA T2 (taker_none hno) fun b => ?_
  have hcls : PySem.W.Looks (model X.prog X.w) hp (classData C) cd := PySem.W.looks_clsIn I.kIn hcl
  obtain ⟨nm, bs, mro, ns, qn, hdc, sn, sb, ab, col, del⟩ := cd
  dsimp only at hdd
  subst hdd
  unfold Builtin.ObjectAttr.storeInOwnDict Builtin.ObjectAttr.ownDictForStores
  repeat (first | with_reducible refine PySem.HandSPX.store_in_new ?_ ?_ | with_reducible refine wpAny_loadPart_at ho ?_ | with_reducible refine hcls.at ?_ | wp_step)
  · exact ⟨_, #[], _, (Heap.get?_update_ne _ _ _ _ hxs.symm).trans (Heap.get?_push_at rfl rfl), rfl, fun e he => absurd he (by simp), fun _ => rfl⟩
  · intro h' tk' hn' hs
    have hx₁ : (hp.push { cls := .type "dict", data := .dict #[] }).get? a = some ({ cls := .ref C, dict := none, data := .fields #[.ref t1, .none, .none, .none, .bool false, .none] } : Obj) := Heap.get?_push_of_some _ ho
    refine fin h' tk' hp.objs.size (fun b o hb ho => ?_) (Nat.le_refl _) hxs.symm ?_ hn'
    · exact (hs.2 b (Nat.ne_of_lt (Heap.lt_size ho))).trans ((Heap.get?_update_ne _ _ _ _ hb).trans (Heap.get?_push_of_some _ ho))
    · exact (hs.2 a hxs).trans (Heap.get?_update_self _ hx₁ rfl)
/-- a further field -/
theorem xs_old (T : XcC X.K C) (I : Inv X pins σ H s) (e : H a = some (exo a C (some dx))) (ed : H dx = some (exd dx fs)) (hl : fs.length ≤ 900) (hno : PySem.W.findIn X.K (.ref C) f = some none) (ry : RelV y u)
    (h : ∀ s', Inv X pins σ (upd H dx (exd dx ((f, y) :: fs))) s' → Q () s') : wpAny (model X.prog X.w) A (setAttr (.ref a) f u) Q E s := by
  obtain ⟨B, newId, initId, bmB, FB, SF, T1, T2⟩ := T.base
  obtain ⟨cd, hcl, hdd⟩ := cls_hd T.hd
  obtain ⟨t1, ho⟩ := exo_at I.hok e
  obtain ⟨mA, hns, rel⟩ := exd_at I.hok ed
  have hw := within_of rel
  obtain ⟨hp, g, d, t, os⟩ := s
  obtain ⟨oD, _, _, hoD, _, _⟩ := hns.count hw
  have IA : PySem.W.InstAt hp a { cls := .ref C, dict := some dx, data := .fields #[.ref t1, .none, .none, .none, .bool false, .none] } C (some oD) := ⟨ho, rfl, rfl, hoD⟩
  refine PySem.W.set_plain I.kIn (ox := { cls := .ref C, dict := some dx, data := .fields #[.ref t1, .none, .none, .none, .bool false, .none] }) (od := some oD) IA T.sa ?_
  refine PySem.W.osa_openX (s := ⟨hp, g, d, t + 1, os⟩) SF I.kIn IA T2 (taker_none hno) fun b => ?_
  have hcls : PySem.W.Looks (model X.prog X.w) hp (classData C) cd := PySem.W.looks_clsIn I.kIn hcl
  obtain ⟨nm, bs, mro, ns, qn, hdc, sn, sb, ab, col, del⟩ := cd
  dsimp only at hdd
  subst hdd
  unfold Builtin.ObjectAttr.storeInOwnDict Builtin.ObjectAttr.ownDictForStores
  repeat (first | with_reducible refine PySem.OEX.store_in_old hns hw (by rw [List.length_map]; omega) ?_ | with_reducible refine wpAny_loadPart_at ho ?_ | with_reducible refine hcls.at ?_ | wp_step)
  intro h' tk' hn' hs
  have hd : ∃ o, h'.get? dx = some o := by
    obtain ⟨o, _, _, e', _⟩ := hn'
    exact ⟨o, e'⟩
  exact h _ (I.write (t' := tk') (x := dx) (e := dx) (o := exd dx ((f, y) :: fs)) (by rw [ed]; exact True.intro) (.inl rfl) (fun b o hb e => (hs.2 b hb).trans e) hd (exd_ok hn' (relO_put ry rel)))
end
/-! ### self.f = .., as a target -/
def gX (K : PySem.W.Frag) (f : Str) (to : TE) : TG := fun y σ H Q => to σ H fun x H2 => ∃ a C : Addr, x = .ref a ∧ XcC K C ∧ PySem.W.findIn K (.ref C) f = some none ∧
  ((H2 a = some (exo a C none) ∧ ∀ dx, H2 dx = none → dx ≠ a → Q σ (upd (upd H2 dx (exd dx [(f, y)])) a (exo a C (some dx)))) ∨
    ∃ (dx : Addr) (fs : List (Str × V)), H2 a = some (exo a C (some dx)) ∧ H2 dx = some (exd dx fs) ∧ fs.length ≤ 900 ∧ Q σ (upd H2 dx (exd dx ((f, y) :: fs))))
section
variable {X : Cx} {o e : Expr} {es : List Expr} {to te : TE} {ta : TA} {f : Str} {p p' pos : Pos}
theorem pg_x (ho : PE X o to) (ha : ∀ v, assign (.Attribute o f p') X.env v = (do
      let ov ← holding [v] (eval o X.env)
      standAt p'.atName
      holding [v, ov] (setAttr ov f v)
      release [v, ov] []) := by intro _; rfl) : PG X (.Attribute o f p') (gX X.K f to) := by
  refine ⟨fun pins s σ H v u Q I r h => ?_⟩
  rw [ha]
  refine wpAny_bind (wpAny_holding (thn (ho.run pins s σ H _ I h) fun ov s1 ⟨x, H1, I1, r1, a, C, ex, T, hno, q⟩ => ?_))
  subst ex
  obtain rfl : ov = Value.ref a := r1
  refine wpAny_bind (wpAny_standAt (wpAny_bind (wpAny_holding ?_)))
  rcases q with ⟨ea, q⟩ | ⟨dx, fs, ea, ed, hl, q⟩
  · exact xs_new T I1 ea hno r fun dx s' n ne J => wpAny_release ⟨σ, _, J, q dx n ne⟩
  · exact xs_old T I1 ea ed hl hno r fun s' J => wpAny_release ⟨σ, _, J, q⟩
/-! ### C(e, ..), C's own __init__ keeping sp -/
def tMkX (C : Addr) (sp : Sp) (ta : TA) : St → Hp → XK → Prop := fun σ H Q => ta σ H fun vs H1 => vs.length ≤ 1000 ∧ ∀ a, H1 a = none → sp (.ref a :: vs) (upd H1 a (exo a C none))
  (fun v H2 => v = .non ∧ ∃ (d : Addr) (fs : List (Str × V)), H2 a = some (exo a C (some d)) ∧ H2 d = some (exd d fs) ∧ H1 d = none ∧ Q (.ref C) (some d) (upd (L2.del H2 a) d (.xd fs))) (fun _ _ _ => False)
theorem mkx_run {C fI : Addr} {k : Nat} {fd : FuncData} {ps : List Str} {sp : Sp} {pins : List (Addr × Obj)} {σ : St} {H1 : Hp} {s1 : Shared} {us : List Value} {vs : List V} {Q : XK} (T : XcC X.K C) (iC : PySem.W.findIn X.K (.ref C) "__init__" = some (some (.ref fI))) (tI : PySem.W.typeIn X.K (.ref fI) = some (.type "function"))
    (F1 : FnOk X.prog X.w X.K X.mg X.base (L2N.CX X.prog X.w) k fI fd ps sp) (hr : Room (k + 1) X.A) (hb : Binds X.K fd ps []) (hx : Passes (L2N.CX X.prog X.w) X (fun _ _ _ => False)) (I1 : Inv X pins σ H1 s1) (r1 : Vals vs us) (hz : vs.length ≤ 1000)
    (q1 : ∀ a, H1 a = none → sp (.ref a :: vs) (upd H1 a (exo a C none)) (fun v H2 => v = .non ∧ ∃ (d : Addr) (fs : List (Str × V)), H2 a = some (exo a C (some d)) ∧ H2 d = some (exd d fs) ∧ H1 d = none ∧ Q (.ref C) (some d) (upd (L2.del H2 a) d (.xd fs))) (fun _ _ _ => False)) :
    wpAny (model X.prog X.w) X.A (call (.ref C) us) (L2N.MkP X pins σ Q) X.xe s1 := by
  obtain ⟨B, newId, initId, bmB, FB, SF, T1, T2⟩ := T.base
  obtain ⟨hp, g, dr, tk, os⟩ := s1
  obtain ⟨nm, N, qn, bs, bm, hdct, sn, sub, ab, col, dd, k0, k1, k2, k3, k5, hC, hT⟩ := PySem.W.excInit_of I1.kIn T1
  have hsz : hp.objs.size ≤ hp.objs.size + 1 := Nat.le_succ _
  have hn : H1 (hp.objs.size + 1) = none := I1.hok.fresh hsz
  have hq := q1 (hp.objs.size + 1) hn
  have kk : ∀ b o, hp.get? b = some o → ((hp.push (PySem.W.kdv_tup us)).push (PySem.HandSPX.excO C hp.objs.size)).get? b = some o := fun b o e => Heap.get?_push_of_some _ (Heap.get?_push_of_some _ e)
  have hget : ((hp.push (PySem.W.kdv_tup us)).push (PySem.HandSPX.excO C hp.objs.size)).get? (hp.objs.size + 1) = some (PySem.HandSPX.excO C hp.objs.size) := by heap_get
  have I2 : Inv X pins σ (upd H1 (hp.objs.size + 1) (exo (hp.objs.size + 1) C none)) ⟨(hp.push (PySem.W.kdv_tup us)).push (PySem.HandSPX.excO C hp.objs.size), g, dr, tk, os⟩ :=
    I1.laid (t' := tk) (a := hp.objs.size + 1) (o := exo (hp.objs.size + 1) C none) (h' := (hp.push (PySem.W.kdv_tup us)).push (PySem.HandSPX.excO C hp.objs.size)) kk hsz (exo_ok hget)
  have r2 : Vals (V.ref (hp.objs.size + 1) :: vs) (Value.ref (hp.objs.size + 1) :: us) := .cons rfl r1
  have hl : (Value.ref (hp.objs.size + 1) :: us).length = ps.length := by
    have e := r2.length
    rw [F1.len _ _ _ _ hq] at e
    exact e.symm
  have hus : us.length ≤ sizeLine := by
    rw [← Paired.length r1, sizeLine_eq]
    omega
  have bb := hb _ (Value.ref (hp.objs.size + 1) :: us) I2.kIn (by rw [List.append_nil]; exact hl)
  rw [List.append_nil] at bb
  refine wpAny_call (PySem.HandSPX.call_own FB hT hC (PySem.W.looks_findIn I1.kIn iC) (fun self => PySem.W.bind_fn I1.kIn self tI) hus
    (codeAny_mono (F1.run _ X.stack _ _ ⟨Value.ref (hp.objs.size + 1) :: us, []⟩ (Value.ref (hp.objs.size + 1) :: us) _ _ (fun _ _ _ => False) (hr.make C us []) (I2.env0.make C us []) bb r2 hq) fun r s' hq' => ?_))
  cases r with
  | error er => exact hx pins σ _ _ er s' I2 hq'
  | ok fl =>
    cases fl with
    | ret u =>
      obtain ⟨v, H2, os2, bare2, un2, hok2, rv, ev, d, fs, ea, ed, hd1, q2⟩ := hq'
      subst ev
      obtain ⟨h2, g2, d2, t2, os'⟩ := s'
      obtain ⟨t0, G, J, kG, ge, hoe, na⟩ := mk_end0 (d2 := d2) (t2 := t2) I1 hsz kk un2 hok2 os2 bare2 ea ed hd1
      exact ⟨rv, hp.objs.size + 1, _, _, ⟨G, g2, d2, t2, os'⟩, _, .ref C, some d, rfl, J, kG, ge, hoe, ⟨rfl, rfl, fun vs hv => by cases hv; rfl⟩, rfl, rfl, na, rfl, bare2, raises_own T.exC T.tyC, q2⟩
    | next => exact False.elim hq'
    | brk => exact False.elim hq'
    | cont => exact False.elim hq'
theorem pmk_x {x : Str} {C fI : Addr} {k : Nat} {fd : FuncData} {ps : List Str} {sp : Sp} (T : XcC X.K C) (iC : PySem.W.findIn X.K (.ref C) "__init__" = some (some (.ref fI))) (tI : PySem.W.typeIn X.K (.ref fI) = some (.type "function"))
    (F1 : FnOk X.prog X.w X.K X.mg X.base (L2N.CX X.prog X.w) k fI fd ps sp) (hr : Room (k + 1) X.A) (hb : Binds X.K fd ps []) (hx : Passes (L2N.CX X.prog X.w) X (fun _ _ _ => False)) (hg : Gl X x) (hm : X.mg x = some (.ref C)) (ha : PA X (e :: es) ta)
    (hdb : (x == ("__debug__" : Str)) = false := by decide) (he : starEach (e :: es) X.env = (false, eval e X.env) :: starEach es X.env := by rfl) (hpl : (backTo pos (starEach es X.env)).any (·.1) = false := by rfl) :
    L2N.PMk X (.Call (.Name x p) (e :: es) [] pos) (tMkX C sp ta) := by
  intro pins s σ H Q I h
  refine wpAny_Call_Name_kw (ld_glob I hg hm ?_ hdb)
  refine PySem.W.callWith_K (h₀ := X.base) I.ok.mod.kin T.kC (thn (ha.run pos pins s σ H _ I h) fun us s1 ⟨vs, H1, I1, r1, hz, q1⟩ => ⟨I1.kIn, ?_⟩) he hpl
  exact mkx_run T iC tI F1 hr hb hx I1 r1 hz q1
end
end G

/-! GRaise: an error's __init__, raise. -/
namespace G
open PySem PySem.Spec L2
open Evl (Ex)
/-- what the written part says of an error class with the field f -/
structure XcF (K : PySem.W.Frag) (C : Addr) (f : Str) : Prop where
  c : XcC K C
  tg : PySem.W.findIn K (.ref C) "tag" = some none
  fl : PySem.W.findIn K (.ref C) f = some none
/-- the __init__ of an error x with the field f -/
def spIni (K : PySem.W.Frag) (x f : Str) : Sp := fun vs H Q E => ∃ a C v, vs = [.ref a, v] ∧ XcF K C f ∧ H a = some (exo a C none) ∧
  ∀ p d, H p = none → upd H p (.tup [.str x, v]) d = none → Q .non (upd (upd (upd (upd H p (.tup [.str x, v])) d (exd d [("tag", .str x)])) a (exo a C (some d))) d (exd d [(f, v), ("tag", .str x)]))
def spIni0 (K : PySem.W.Frag) (x : Str) : Sp := fun vs H Q E => ∃ a C, vs = [.ref a] ∧ XcF K C "tag" ∧ H a = some (exo a C none) ∧
  ∀ d, H d = none → Q .non (upd (upd H d (exd d [("tag", .str x)])) a (exo a C (some d)))
theorem sw_none {a b x y : Expr} {f g : Str} {p1 p2 p3 p4 : Pos} {k1 k2 : Nat} {env : Env} : swappedStores [.Tuple [.Attribute a f p1, .Attribute b g p2] k1 p3] (.Tuple [x, y] k2 p4) env = pure none := by
  unfold swappedStores
  simp only [List.filterMap_cons, List.filterMap_nil]
  split
  · rfl
  · split
    · rfl
    · rfl
section
variable {P : Program} {w : World} {K : PySem.W.Frag} {mg : Str → Option Value} {base : Heap} {x qual f pn : Str} {params : Arguments} {scope : Scope} {fI : Addr} {fd : FuncData} {p1 p2 p3 p4 p5 p6 p7 p8 p9 : Pos} {j k1 k2 : Nat}
theorem ini_ok {body : List Stmt} (FD : FunD K "__init__" qual params body scope [] [] fI fd) (S : FnScope ["self", pn] ["self", pn] scope)
    (hv : scope.names.lookup ("self" : Str) = some .local) (hv2 : scope.names.lookup pn = some .local) (hb : body = [.Assign [.Tuple [.Attribute (.Name "self" p1) "tag" p2, .Attribute (.Name "self" p3) f p4] k1 p5] (.Tuple [.Constant (.str x) j p6, .Name pn p7] k2 p8) p9])
    (hd : (pn == ("__debug__" : Str)) = false := by decide) (hcd : (pn == ("__classdict__" : Str)) = false := by decide) : FnOk P w K mg base (L2N.CX P w) 1 fI fd ["self", pn] (spIni K x f) := by
  subst hb
  refine FD.ok S (fun vs H Q E h => ?_) fun cdv A outer s H vs Q E hr h => ?_
  · obtain ⟨a, C, v, e, _⟩ := h
    rw [e]
    rfl
  · obtain ⟨a, C, v, ev, T, ha, q⟩ := h
    subst ev
    refine ⟨_, pss_one (ps_asg (pe_tup (pa_cons pe_str (pa_cons (pe_var (i := 1) rfl (.inl hv2) hd hcd) pa_nil))) (pg_tup rfl (pgs_cons (pg_x (pe_var (i := 0) rfl (.inl hv))) (pgs_cons (pg_x (pe_var (i := 0) rfl (.inl hv))) pgs_nil))) rfl sw_none), ?_⟩
    refine ⟨v, rfl, by show 2 ≤ sizeLine; rw [sizeLine_eq]; decide, fun p hp => ⟨p, _, rfl, SqT.of upd_same, rfl, .str x, [v], rfl, .ref a, rfl, a, C, rfl, T.c, T.tg, .inl ⟨?_, fun d hd ne => ⟨v, [], rfl, .ref a, rfl, a, C, rfl, T.c, T.fl, .inr ⟨d, [("tag", .str x)], upd_same, ?_, Nat.le_of_ble_eq_true rfl, rfl, ?_⟩⟩⟩⟩⟩
    · rw [upd_ne (ne_of_none ha hp)]
      exact ha
    · rw [upd_ne ne, upd_same]
    · exact q p d hp hd
/-- an error class by its name: its field, its __init__ -/
structure Xc (P : Program) (w : World) (K : PySem.W.Frag) (mg : Str → Option Value) (base : Heap) (x f : Str) : Prop where
  ex : ∃ C fI fd ps, mg x = some (.ref C) ∧ XcF K C f ∧ PySem.W.findIn K (.ref C) "__init__" = some (some (.ref fI)) ∧ PySem.W.typeIn K (.ref fI) = some (.type "function") ∧ FnOk P w K mg base (L2N.CX P w) 1 fI fd ps (spIni K x f) ∧ L2.Binds K fd ps []
structure Xc0 (P : Program) (w : World) (K : PySem.W.Frag) (mg : Str → Option Value) (base : Heap) (x : Str) : Prop where
  ex : ∃ C fI fd ps, mg x = some (.ref C) ∧ XcF K C "tag" ∧ PySem.W.findIn K (.ref C) "__init__" = some (some (.ref fI)) ∧ PySem.W.typeIn K (.ref fI) = some (.type "function") ∧ FnOk P w K mg base (L2N.CX P w) 1 fI fd ps (spIni0 K x) ∧ L2.Binds K fd ps []
end
section
variable {X : Cx} {W : WX} {e : Expr} {ce : E} {p pos pos' : Pos} {x f : Str}
theorem takes_false (tk : L2N.Takes X W) : Passes (L2N.CX X.prog X.w) X (fun _ _ _ => False) := fun pins σ H s er s' I c => tk er s' (L2N.XE.of_call I (fun _ _ _ z => z.elim) c)
theorem hend {H : Hp} {a p d : Addr} {t : HO} {u1 u2 u3 : HO} {o : HO} {fs : HO} (ha : H a = none) (hp : upd H a o p = none) (hd : upd (upd H a o) p t d = none) : upd (L2.del (upd (upd (upd (upd (upd H a o) p t) d u1) a u2) d u3) a) d fs = upd (upd H p t) d fs := by
  have pa : p ≠ a := fun z => by
    subst z
    rw [upd_same] at hp
    cases hp
  have dp : d ≠ p := fun z => by
    subst z
    rw [upd_same] at hd
    cases hd
  funext b
  by_cases hb : b = d
  · subst hb
    rw [upd_same, upd_same]
  · rw [upd_ne hb, upd_ne hb]
    by_cases hba : b = a
    · subst hba
      rw [L2.del_same, upd_ne (Ne.symm pa), ha]
    · rw [L2.del_ne hba, upd_ne hb, upd_ne hba, upd_ne hb]
      by_cases hbp : b = p
      · subst hbp
        rw [upd_same, upd_same]
      · rw [upd_ne hbp, upd_ne hbp, upd_ne hba]
/-- raise X(e) -/
theorem js_raise (XC : Xc X.prog X.w X.K X.mg X.base x f) (hr : Room 2 X.A) (tk : L2N.Takes X W) (hc : X.calm = true) (hg : Gl X x) (he : JE X W e ce) (hdb : (x == ("__debug__" : Str)) = false := by decide)
    (hs : starEach [e] X.env = (false, eval e X.env) :: starEach [] X.env := by rfl) (hpl : (backTo pos (starEach [] X.env)).any (·.1) = false := by rfl) :
    JS X W (.Raise (some (.Call (.Name x p) [e] [] pos)) none pos') (.rse (fun ds => er x f (ds.headD .non)) (.cons ce .nil)) := by
  obtain ⟨C, fI, fd, ps, hm, T, iC, tI, F1, hb⟩ := XC.ex
  obtain ⟨ta, p1, r1⟩ := ja_cons he ja_nil hs
  refine ⟨_, L2N.ps_raise hc tk (pmk_x T.c iC tI F1 hr hb (takes_false tk) hg hm p1 hdb hs hpl), fun wd F τ cs σ H P Q R rs h q => ?_⟩
  have h : wpEs (.cons ce .nil) τ cs (fun ds cs' => P.ex (er x f (ds.headD .non)) τ cs') (fun y cs' => P.ex y τ cs') := h
  refine r1 wd F τ cs σ H (fun ds cs' => (∃ d, ds = [d]) ∧ P.ex (er x f (ds.headD .non)) τ cs') _ _ R rs ?_ (fun wd1 ds c1 vs H1 l1 R1 rv h1 => ?_) (q.xok rs)
  · show wpE ce τ cs (fun d c1 => (∃ d', [d] = [d']) ∧ P.ex (er x f (([d] : List D).headD .non)) τ c1) _
    have e : (fun (d : D) (c1 : Cs) => (∃ d', [d] = [d']) ∧ P.ex (er x f (([d] : List D).headD .non)) τ c1) = fun d c1 => P.ex (er x f (([d] : List D).headD .non)) τ c1 := by
      funext d c1
      exact propext ⟨fun z => z.2, fun z => ⟨⟨d, rfl⟩, z⟩⟩
    rw [e]
    exact h
  · obtain ⟨⟨d, ed⟩, h1⟩ := h1
    subst ed
    obtain ⟨v, ev, rv1⟩ := rv.one
    subst ev
    refine ⟨Nat.le_of_ble_eq_true rfl, fun a ha => ⟨a, C, v, rfl, T, upd_same, fun pp dd hp hd => ⟨rfl, dd, _, ?_, upd_same, ?_, ?_⟩⟩⟩
    · have da : a ≠ dd := fun z => by
        subst z
        have pa : a ≠ pp := ne_of_none (upd_same (H := H1) (o := exo a C none)) hp
        rw [upd_ne pa, upd_same] at hd
        cases hd
      rw [upd_ne da, upd_same]
    · have dp : dd ≠ pp := fun z => by
        subst z
        rw [upd_same] at hd
        cases hd
      rw [upd_ne dp] at hd
      have da : dd ≠ a := fun z => by
        subst z
        rw [upd_same] at hd
        cases hd
      rw [upd_ne da] at hd
      exact hd
    · rw [hend ha hp hd]
      have pa : pp ≠ a := fun z => by
        subst z
        rw [upd_same] at hp
        cases hp
      rw [upd_ne pa] at hp
      have dp : dd ≠ pp := fun z => by
        subst z
        rw [upd_same] at hd
        cases hd
      rw [upd_ne dp] at hd
      have da : dd ≠ a := fun z => by
        subst z
        rw [upd_same] at hd
        cases hd
      rw [upd_ne da] at hd
      obtain ⟨R2, l2⟩ := R1.new hp (.tup [.str x, v])
      have hd2 : upd H1 pp (.tup [.str x, v]) dd = none := by rw [upd_ne dp]; exact hd
      obtain ⟨R3, l3⟩ := R2.new hd2 (.xd [(f, v), ("tag", .str x)])
      refine q.ex _ (er x f d) τ c1 σ _ _ _ (l1.trans (l2.trans l3)) R3 (rs.mono (l1.trans (l2.trans l3))) ⟨C, dd, [(f, v), ("tag", .str x)], hm, rfl, rfl, upd_same, rfl, ?_⟩ h1
      exact ⟨v, [.str x], rfl, rv1.mono (l2.trans l3), .str x, [], rfl, rfl, rfl⟩
end
end G

/-! GRaise0: raise X() of an error class whose __init__ takes nothing. -/
namespace G
open PySem PySem.Spec PyProof.Rows L2
section
variable {X : Cx} {W : WX} {p pos pos' : Pos} {x : Str}
end
end G

/-! GLaw: the laws' helpers, as rewriting rules. -/
namespace G
open PySem (Str)
theorem spTake_e {n : Nat} {m : Int} {cs : Cs} {Q : KD} {X : KX} : spTake [.ref n, .int m] cs Q X = (cs n = some .drw ∧ 0 < m ∧ m < 2 ^ 200 ∧ ∀ r, 0 ≤ r → r < m → Q (.int r) cs) := by
  apply propext
  constructor
  · rintro ⟨_, _, h, hc, h0, h1, k⟩
    cases h
    exact ⟨hc, h0, h1, k⟩
  · rintro ⟨hc, h0, h1, k⟩
    exact ⟨_, _, rfl, hc, h0, h1, k⟩
theorem spOf_e {n : Nat} {x : D} {cs : Cs} {Q : KD} {X : KX} : spOf [.ref n, x] cs Q X = (cs n = some .drw ∧ (∀ s, x ≠ .str s) ∧ ∃ xs, getQ x cs = some xs ∧ xs ≠ [] ∧ xs.length ≤ lim ∧ ∀ d ∈ xs, Q d cs) := by
  apply propext
  constructor
  · rintro ⟨_, _, xs, h, hc, h1, h2, h3, h4, k⟩
    cases h
    exact ⟨hc, h1, xs, h2, h3, h4, k⟩
  · rintro ⟨hc, h1, xs, h2, h3, h4, k⟩
    exact ⟨_, _, _, rfl, hc, h1, h2, h3, h4, k⟩
theorem spStart_e {cs : Cs} {Q : KD} {X : KX} : spStart [.scr] cs Q X = (∀ n, cs n = none → Q (.ref n) (put cs n .drw)) := by
  apply propext
  constructor
  · rintro ⟨_, h⟩
    exact h
  · exact fun h => ⟨rfl, h⟩
@[simp] theorem sNot_e {b : Bool} {cs : Cs} {Q : KD} {X : KX} : sNot [.bl b] cs Q X = Q (.bl (!b)) cs := rfl
@[simp] theorem sNeg_e {i : Int} {cs : Cs} {Q : KD} {X : KX} : sNeg [.int i] cs Q X = Q (.int (-i)) cs := rfl
@[simp] theorem sList_e {ds : List D} {cs : Cs} {Q : KD} {X : KX} : sList ds cs Q X = (ds.length ≤ lim ∧ Q (.lst ds) cs) := rfl
@[simp] theorem sTup_e {ds : List D} {cs : Cs} {Q : KD} {X : KX} : sTup ds cs Q X = (ds.length ≤ lim ∧ Q (.tup ds) cs) := rfl
@[simp] theorem sListM_e {ds : List D} {cs : Cs} {Q : KD} {X : KX} : sListM ds cs Q X = (ds.length ≤ lim ∧ ∀ n, cs n = none → Q (.ref n) (put cs n (.lst ds))) := rfl
@[simp] theorem sAdd_l {a b : List D} {cs : Cs} {Q : KD} {X : KX} : sAdd [.lst a, .lst b] cs Q X = (a.length + b.length ≤ lim ∧ Q (.lst (a ++ b)) cs) := rfl
theorem rgD_length {a b : Int} : (rgD a b).length = (b - a).toNat := by simp [rgD]
theorem rgD_get {a b : Int} {j : Nat} {x : D} (h : (rgD a b)[j]? = some x) : x = .int (a + j) := by
  unfold rgD at h
  rw [List.getElem?_map] at h
  cases e : (List.range (b - a).toNat)[j]? with
  | none =>
    rw [e] at h
    cases h
  | some i =>
    rw [e] at h
    have h2 : i = j := by
      have := List.getElem?_eq_some_iff.mp e
      obtain ⟨h3, h4⟩ := this
      rw [List.getElem_range] at h4
      exact h4.symm
    subst h2
    exact (Option.some.inj h).symm
/-- a counting loop whose body changes the state by an invariant -/
theorem rng1_inv {i : Nat} {body : Sl → Cs → Ends → Prop} {K : Ends} {σ : Sl} {cs : Cs} {b : Int} (I : Nat → Sl → Cs → Prop) (lo : -(2 ^ 62) ≤ b) (hi : b < 2 ^ 62) (h0 : I 0 σ cs)
    (hs : ∀ (j : Nat) σ cs, (j : Int) < b → I j σ cs → ∀ K', (∀ σ' cs', I (j + 1) σ' cs' → K'.nx σ' cs') → (∀ σ' cs', I (j + 1) σ' cs' → K'.ct σ' cs') → K'.bk = K.bk ∨ K'.bk = K.nx → K'.rt = K.rt → K'.ex = K.ex → body (σ.set i (some (.int j))) cs K')
    (hd : ∀ σ cs, I b.toNat σ cs → K.nx σ cs) : iRng1 [.int b] cs fun items grd => forL (.nm i) grd body K items σ cs := by
  refine ⟨lo, hi, forL_inv I _ 0 h0 (fun _ _ _ _ _ _ => trivial) (fun j x σ cs hj hI => ?_) (fun σ cs h => hd σ cs ?_)⟩
  · have e := rgD_get hj
    subst e
    have hj2 : j < (rgD 0 b).length := (List.getElem?_eq_some_iff.mp hj).1
    rw [rgD_length] at hj2
    rw [Nat.zero_add] at hI
    refine ⟨_, rfl, fun K' a1 a2 a3 a4 a5 => ?_⟩
    rw [show ((0 : Int) + (j : Int)) = (j : Int) by omega]
    rw [Nat.zero_add] at a1 a2
    exact hs j σ cs (by omega) hI K' a1 a2 (.inr a3) a4 a5
  · rw [Nat.zero_add, rgD_length, Int.sub_zero] at h
    exact h
/-! ### the start of a draw -/
def c_start_1 : S := (.ret (.app sListM (.cons (.app sListOf (.cons (.app sCutScr (.cons (.v 0) .nil)) .nil)) (.cons (.c (.int 0)) (.cons (.c (.int 0)) (.cons (.app sAdd (.cons (.c (.int 9494)) (.cons (.app sMul (.cons (.c (.int 37)) (.cons (.app sLen (.cons (.app sCutScr (.cons (.v 0) .nil)) .nil)) .nil))) .nil))) .nil))))))
def c_start : S := (c_start_1)
@[simp] theorem sCutScr_e {cs : Cs} {Q : KD} {X : KX} : sCutScr [.scr] cs Q X = ∀ ns : List Int, ns.length ≤ 63 → (∀ n ∈ ns, n.natAbs < 2 ^ (2 ^ 20)) → Q (.lst (ns.map D.int)) cs := rfl
@[simp] theorem sListOf_e {x : D} {cs : Cs} {Q : KD} {X : KX} : sListOf [x] cs Q X = match getQ x cs with
    | some xs => Q (.lst xs) cs
    | none => False := rfl
theorem ok_start : okFn 1 c_start spStartU := by
  rintro ds cs Q X ⟨rfl, k⟩
  show wpS c_start_1 [some .scr] cs _
  rw [c_start_1]
  simp only [wpS, wpE, wpEs, getV, sCutScr_e]
  intro ns h1 h2
  simp only [sListOf_e, getQ_lst]
  intro ms h3 h4
  rw [sLen_e (by intro s e; cases e)]
  simp only [getQ_lst, sMul_i, sAdd_i, sListM_e, List.length_map]
  refine ⟨mulOk_r (by omega), show 4 ≤ 16777216 by decide, fun n hn => ?_⟩
  exact k n ns 0 0 _ hn ⟨h1, h2, by decide, by decide, by omega, by omega⟩
end G

/-! GEnd: from facts of the top to defs' promises; the law's end. -/
namespace G
open PySem PySem.Spec L2
/-- the law's promise -/
def spLaw : Spec := fun ds cs Q _ => ds = [.scr] ∧ ∀ cs', Q (.bl true) cs'
section
variable {P : Program} {w : World} {K : PySem.W.Frag} {mg : Str → Option Value} {base : Heap} {x qual : Str} {params : Arguments} {body : List Stmt} {scope : Scope} {f : Addr} {fd : FuncData} {ps ks : List Str} {k n : Nat} {sp : Spec} {ix : List Nat}
theorem fnOk_false : FnOk P w K mg base (L2N.CX P w) 0 f fd ps (lift K mg fun _ _ _ _ => False) :=
  ⟨fun vs H Q E ⟨_, _, _, _, _, _, _, _, h, _⟩ => h.elim, fun A outer s H args us vs Q E _ _ _ _ ⟨_, _, _, _, _, _, _, _, h, _⟩ => h.elim⟩
theorem fnk_mk (FD : FunD K x qual params body scope [] [] f fd) (hm : mg x = some (.ref f)) (ok : FnOk P w K mg base (L2N.CX P w) k f fd ps (lift K mg sp))
    (hb : ∀ (kV doc pm : Value) (an : Option Addr) (cdv ct : Value) (us ws : List Value), us.length = n → ws.length = ks.length → bindArgs (PySem.W.fnOf x qual params body scope .none kV doc pm an cdv ct) ⟨us, ks.zip ws⟩ = pure (ps.zip (permL ix (us ++ ws)))) : FnK P w K mg base x k n ks ix sp := by
  refine ⟨f, fd, ps, hm, ok, FD.kp, fun s us ws h1 h2 => ?_⟩
  obtain ⟨oc, od, dV, kV, doc, pm, an, cdv, ct, osl, rfl, lk, hcd, hD, hK⟩ := FD.ex
  rcases hD with ⟨_, rfl⟩ | ⟨e, _⟩
  · exact .of_eq (hb kV doc pm an cdv ct us ws h1 h2)
  · exact absurd rfl e
end
theorem bits_lt {n : Int} (h : Builtin.Int.intBits n ≤ 1048576) : n.natAbs < 2 ^ (2 ^ 20) := by
  unfold Builtin.Int.intBits at h
  by_cases e : n = 0
  · subst e
    exact Nat.two_pow_pos _
  · have e2 : (n == 0) = false := by simp [e]
    rw [e2] at h
    have h3 : n.natAbs.log2 + 1 ≤ 1048576 := h
    have h4 : n.natAbs.log2 < 2 ^ 20 := by
        omega
    exact (Nat.log2_lt (by omega)).mp h4
/-- what is known of the heap at the start: all but the tables -/
def noT (H : Hp) : Hp := fun a => match H a with
  | some (.tbl _) => none
  | o => o
theorem noT_eq {H : Hp} {a : Addr} {o : HO} (h : H a = some o) (n : ∀ q, o ≠ .tbl q) : noT H a = some o := by
  unfold noT
  rw [h]
  cases o <;> first | rfl | exact absurd rfl (n _)
theorem of_noT {H : Hp} {a : Addr} {o : HO} (h : noT H a = some o) : H a = some o ∧ ∀ q, o ≠ .tbl q := by
  unfold noT at h
  cases e : H a with
  | none => rw [e] at h; cases h
  | some u =>
    rw [e] at h
    cases u <;> first | (cases h; done) | (cases h; exact ⟨rfl, fun q z => by cases z⟩)
theorem noT_l {K : PySem.W.Frag} {H : Hp} {a : Addr} {xs : List V} (h : SqL K H a xs) : SqL K (noT H) a xs := by
  rcases h with (h | ⟨o, h⟩) | h
  · exact .inl (.inl (noT_eq h fun q z => by cases z))
  · exact .inl (.inr ⟨o, noT_eq h fun q z => by cases z⟩)
  · exact .inr h
theorem law_start {K : PySem.W.Frag} {mg : Str → Option Value} {H : Hp} {a : Addr} {ns : List Int} (hl : ns.length ≤ 63) (hb : ∀ z ∈ ns, Builtin.Int.intBits z ≤ 1048576) (hT : ∀ p ∈ tabsOf K, H p.1 = some (.tbl #[])) (hS : SqL K H a (ns.map V.int)) : lift K mg spLaw [.ref a] H (fun v _ => v = .bl true) fun _ _ _ => False := by
  have R : Rl K ⟨noT H, fun _ => none, 0⟩ (fun _ => none) (fun _ => none) H := by
    constructor
    · exact fun a o e => (of_noT e).1
    · intro a o e
      cases e
    · exact fun _ _ _ => rfl
    · intro n m a e
      cases e
    · intro n o e
      cases e
    · intro n a e
      cases e
    · exact fun _ _ => rfl
    · intro n a e
      cases e
    · intro a o e
      cases e
    · exact fun p hp => ⟨#[], hT p hp, True.intro, fun pos cv hc => by
        have z : codeAmong pos [] = some cv := hc
        simp [codeAmong] at z⟩
    · exact fun a q e => (of_noT e).2 q rfl
  have r : RpL K ⟨noT H, fun _ => none, 0⟩ [.scr] [.ref a] := ⟨.ref a, [], rfl, ⟨a, ns, rfl, noT_l hS, hl, fun z hz => bits_lt (hb z hz)⟩, rfl⟩
  refine ⟨_, _, _, [.scr], fun d _ => d = .bl true, fun _ _ => False, R, r, ⟨rfl, fun _ => rfl⟩, ?_, ?_⟩
  · intro wd' d cs v H' _ _ r e
    subst e
    exact r
  · intro _ _ _ _ _ _ _ _ _ z
    exact z.elim
theorem tabsB_ok {tf : List He.Defn} {K : PySem.W.Frag} (h : tabsB tf K = true) {p : Addr × Str} (hp : p ∈ tabsOf K) : ∃ d ∈ tf, (He.cT K d).2 = p.1 := by
  obtain ⟨d, hd, e⟩ := List.any_eq_true.mp (List.all_eq_true.mp h p hp)
  exact ⟨d, hd, beq_iff_eq.mp e⟩
open PyProof.Rows in
theorem walkG {l : PySem.W.OpenLaw} {k : Nat} {q : Program} {loose : List Str} {XP : (Str → Option Value) → Heap → Prop} {d : DefRec} {x : Str} {n : Nat} {fa : List He.Fa} {fn : List He.DefD} {ts : List He.Tab} {tf : List He.Defn} {ex : PySem.W.Frag → Bool}
    (hn : l.most = some 63) (hdf : d.params.defaults = []) (hr : Room k callerA) (hex : ∀ K, ex K = true → tabsB tf K = true)
    (F : ∀ (w : World) (mg : Str → Option Value) (f : Addr) (h : Heap) (K : PySem.W.Frag), K.In h → He.SaysX fa fn ts tf ex w h K → h.Ns mainGlobals mg → mg d.name = some (.ref f) →
      ∃ fd : FuncData, (∀ (s : Shared) (u : Value), BindsTo s fd ⟨[u], []⟩ [(x, u)]) ∧
        ∀ base : Heap, K.In base → base.Ns mainGlobals mg → (∀ p ∈ tf.map (He.cT K), LamX.TabB base mg p.1 p.2) → FnOk l.prog w K mg base (L2N.CX l.prog w) k f fd [x] (lift K mg spLaw)) :
    PySem.W.WalkO q loose XP (He.hookX n fa fn ts tf ex).says l.row.toRowW d [] (fun f vs => PySem.call f vs) := by
  refine LamX.walk_ofTsE (x := x) (n := 63) (CX := fun w => L2N.CX l.prog w) hn (by decide) hdf hr (fun w mg f h Y G hmg => ?_) (fun w H s e s' z => ?_)
  · obtain ⟨K, KX, S⟩ := Y
    obtain ⟨fd, hb, hF⟩ := F w mg f h K KX S G hmg
    refine ⟨K, KX, fd, tf.map (He.cT K), lift K mg spLaw, fun p hp => ?_, fun p hp => ?_, fun p hp => ?_, hb, fun H a ns hlen hbits hT hS => ?_, hF⟩
    · obtain ⟨t, ht, e⟩ := List.mem_map.mp hp
      rw [← e]
      exact S.empty t ht
    · obtain ⟨t, ht, e⟩ := List.mem_map.mp hp
      rw [← e]
      exact S.out t ht
    · obtain ⟨t, ht, e⟩ := List.mem_map.mp hp
      rw [← e]
      exact PySem.W.codeHd_of_K KX (S.hd t ht)
    · refine law_start hlen hbits (fun p hp => ?_) hS
      obtain ⟨t, ht, e⟩ := tabsB_ok (hex K S.more) hp
      rw [← e]
      exact hT _ (List.mem_map.mpr ⟨t, ht, rfl⟩)
  · obtain ⟨_, _, _, _, _, _, _, _, _, _, _, _, z⟩ := z
    exact z
end G

/-! GLam: lambdas made: without parameters, or with one that has a whole number as default. -/
namespace G
open PySem PySem.Spec L2 PyProof.Rows
open Evl (Ex)
/-- a function object of a lambda -/
abbrev lamFd (t : LamT) (cl : List (Str × Addr)) (pm : Value) (cv ctv dV : Value) : FuncData := { PySem.W.kla_fn "<lambda>" t.q t.params t.body t.scope cl pm cv ctv with defaults := dV }
section
variable {M : Model} {A : Around} {E : Value → Shared → Prop} {s : Shared} {t : LamT} {env : Env} {c P : Addr} {ps : Array Value} {pos : Pos} {firstLine : Nat} {mg : Str → Option Value} {clos : List (Str × Addr)} {Q : Value → Shared → Prop}
theorem tail_new {dV : Value} (hcl : closureFor t.scope env = pure clos) (hge0 : env.globals = mainGlobals) (hg : s.heap.Ns mainGlobals mg) (hcode : env.code = .ref c) (C : PySem.W.CodeHd s.heap c P) (hP : s.heap.get? P = some (PySem.W.tabObj ps)) (ht : TriplesOk ps.toList)
    (hnf : codeAmong pos ps.toList = none) (hgP : mainGlobals ≠ P) (hb : s.heap.BuiltinsAt mg P)
    (h : ∀ c' pm ctv h' tk, Heap.ExtBut P s.heap h' → s.heap.objs.size ≤ c' → c' < h'.objs.size → h'.CodeRec (.ref c') t.q → h'.get? P = some (PySem.W.tabObj (ps ++ #[rawInt pos.line, rawInt pos.col, .ref c'])) →
      Q (.ref h'.objs.size) { s with heap := h'.push { cls := .type "function", data := .func (lamFd t clos pm (.ref c') ctv dV) }, toks := tk }) :
    wpAny M A (makeTail "<lambda>" t.q t.params (.expr t.body) t.scope env dV .none none pos firstLine) Q E s := by
  obtain ⟨bm, ob, hbm, hne0, hneG, hneP, hbo, hcls, hdict, hdata⟩ := hb
  unfold makeTail
  rw [hcl, hge0]
  refine wpAny_bind (wpAny_pure ?_)
  cases clos with
  | nil =>
    simp only [List.isEmpty_nil, if_true]
    refine wpAny_bind (wpAny_pure ?_)
    refine wpAny_bind (wpAny_functionCodeX hcode (C.code hP ht) (C.tab hP) hnf fun c' h' tk hx hge hlt _ hrec htb _ => ?_)
    have hg' := hg.extBut hx hgP
    refine wpAny_bind (wpAny_builtinsFor hg' hbm hne0 (hx _ _ hneP hbo) hcls hdict hdata ?_)
    refine wpAny_bind (wpAny_nsGet hg' ?_)
    exact wpAny_bind (wpAny_pure (wpAny_newObj_type (h c' _ .none h' tk hx hge hlt hrec htb.2) (by size_fits)))
  | cons q r =>
    simp only [List.isEmpty_cons, Bool.false_eq_true, if_false]
    refine wpAny_bind (wpAny_newTextTuple ?_)
    have kp : ∀ (u : Obj) b o, s.heap.get? b = some o → (s.heap.push u).get? b = some o := fun u b o e => Heap.get?_push_of_some _ e
    refine wpAny_bind (wpAny_functionCodeX hcode ((C.keeps (kp _)).code (kp _ _ _ hP) ht) ((C.keeps (kp _)).tab (kp _ _ _ hP)) hnf fun c' h' tk hx hge hlt _ hrec htb _ => ?_)
    have hg' := (hg.push _).extBut hx hgP
    have hx' : Heap.ExtBut P s.heap h' := fun b o hb' e => hx b o hb' (kp _ _ _ e)
    have hge' : s.heap.objs.size ≤ c' := Nat.le_trans (by rw [Heap.size_push]; omega) hge
    refine wpAny_bind (wpAny_builtinsFor hg' hbm hne0 (hx' _ _ hneP hbo) hcls hdict hdata ?_)
    refine wpAny_bind (wpAny_nsGet hg' ?_)
    exact wpAny_bind (wpAny_pure (wpAny_newObj_type (h c' _ _ h' tk hx' hge' hlt hrec htb.2) (by size_fits)))
theorem tail_hit {dV cv : Value} (hcl : closureFor t.scope env = pure clos) (hge0 : env.globals = mainGlobals) (hg : s.heap.Ns mainGlobals mg) (hcode : env.code = .ref c) (C : PySem.W.CodeHd s.heap c P) (hP : s.heap.get? P = some (PySem.W.tabObj ps)) (ht : TriplesOk ps.toList)
    (hf : codeAmong pos ps.toList = some cv) (hb : s.heap.BuiltinsAt mg P)
    (h : ∀ (pm ctv : Value) (h' : Heap) (tk : Tok), (∀ b o, s.heap.get? b = some o → h'.get? b = some o) → Q (.ref h'.objs.size) { s with heap := h'.push { cls := .type "function", data := .func (lamFd t clos pm cv ctv dV) }, toks := tk }) :
    wpAny M A (makeTail "<lambda>" t.q t.params (.expr t.body) t.scope env dV .none none pos firstLine) Q E s := by
  obtain ⟨bm, ob, hbm, hne0, hneG, hneP, hbo, hcls, hdict, hdata⟩ := hb
  unfold makeTail
  rw [hcl, hge0]
  refine wpAny_bind (wpAny_pure ?_)
  cases clos with
  | nil =>
    simp only [List.isEmpty_nil, if_true]
    refine wpAny_bind (wpAny_pure (wpAny_bind (wpAny_functionCode_hit hcode (C.code hP ht) hf ?_)))
    refine wpAny_bind (wpAny_builtinsFor hg hbm hne0 hbo hcls hdict hdata (wpAny_bind (wpAny_nsGet hg ?_)))
    exact wpAny_bind (wpAny_pure (wpAny_newObj_type (h _ .none s.heap s.toks (fun _ _ e => e)) (by size_fits)))
  | cons q r =>
    simp only [List.isEmpty_cons, Bool.false_eq_true, if_false]
    have kp : ∀ (u : Obj) b o, s.heap.get? b = some o → (s.heap.push u).get? b = some o := fun u b o e => Heap.get?_push_of_some _ e
    refine wpAny_bind (wpAny_newTextTuple (wpAny_bind (wpAny_functionCode_hit hcode ((C.keeps (kp _)).code (kp _ _ _ hP) ht) hf ?_)))
    refine wpAny_bind (wpAny_builtinsFor (hg.push _) hbm hne0 (kp _ _ _ hbo) hcls hdict hdata (wpAny_bind (wpAny_nsGet (hg.push _) ?_)))
    exact wpAny_bind (wpAny_pure (wpAny_newObj_type (h _ _ _ s.toks (kp _)) (by size_fits)))
end
theorem deflt_none {t : LamT} {X : Cx} (h : defaultsOf t.params X.env = ([], [])) {M : Model} {A : Around} {E : Value → Shared → Prop} {s : Shared} {pos : Pos} {Q : Value → Shared → Prop}
    (q : wpAny M A (makeTail "<lambda>" (X.env.qual ++ "<lambda>") t.params (.expr t.body) t.scope X.env .none .none none pos pos.line) Q E s) : wpAny M A (eval (.Lambda t.params t.body t.scope pos) X.env) Q E s := by
  refine PySem.W.kla_eval h ?_
  rw [makeFunction_eq]
  simp only [List.zip_nil_right, List.filterMap_nil, List.isEmpty_nil, if_true, pure_bind]
  exact q
theorem deflt_one {t : LamT} {X : Cx} {i : Int} {j : Nat} {pc : Pos} (h : defaultsOf t.params X.env = ([eval (.Constant (.int i) j pc) X.env], [])) {M : Model} {A : Around} {E : Value → Shared → Prop} {s : Shared} {pos : Pos} {Q : Value → Shared → Prop}
    (q : wpAny M A (eval (.Constant (.int i) j pc) X.env) (fun v s1 => wpAny M A (makeTail "<lambda>" (X.env.qual ++ "<lambda>") t.params (.expr t.body) t.scope X.env (.ref s1.heap.objs.size) .none none pos pos.line) Q E { s1 with heap := s1.heap.push { cls := .type "tuple", data := .seq [v].toArray } }) E s) :
    wpAny M A (eval (.Lambda t.params t.body t.scope pos) X.env) Q E s := by
  rw [arm_eval_Lambda, h]
  show wpAny M A (do let dv ← evalAll [eval (.Constant (.int i) j pc) X.env]; let kdv ← holding dv (evalAllOpt []); makeFunction "<lambda>" (X.env.qual ++ "<lambda>") t.params (.expr t.body) t.scope X.env dv kdv [] pos pos.line) Q E s
  refine wpAny_bind (wpAny_bind (wpAny_mono q (fun v s1 q1 => wpAny_bind (wpAny_holding (wpAny_pure (wpAny_pure (wpAny_bind (wpAny_holding (wpAny_pure ?_))))))) fun _ _ z => z))
  rw [makeFunction_eq]
  simp only [List.zip_nil_right, List.filterMap_nil, List.isEmpty_nil, List.isEmpty_cons, Bool.false_eq_true, if_true, if_false, pure_bind]
  exact wpAny_bind (wpAny_newTextTuple q1)
/-- behind a lambda's making -/
structure NewLam (B H H1 : Hp) (P : Addr) (t : LamT) (cl : List (Str × Addr)) (f c' : Addr) (dV : Value) : Prop where
  ext : ∀ b o, H b = some o → b ≠ P → H1 b = some o
  fn : H f = none
  ne : f ≠ c'
  ff : H1 f = some (LamO f c' t cl dV)
  cn : H c' = none ∨ B c' = some (LamX.CodeO c' t.q)
  cc : H1 c' = some (LamX.CodeO c' t.q)
  tab : ∃ ps : Array Value, H1 P = some (.tbl ps) ∧ TriplesOk ps.toList ∧ ∀ (pos : Pos) (cv : Value), codeAmong pos ps.toList = some cv → ∃ c, cv = .ref c ∧ (B c = some (LamX.CodeO c t.q) ∨ c = c')
theorem lamO_ok {Pr : Program} {w : World} {H : Hp} {h : Heap} {f c' : Addr} {t : LamT} {cl : List (Str × Addr)} {pm ctv dV : Value} (e : h.get? f = some { cls := .type "function", data := .func (lamFd t cl pm (.ref c') ctv dV) }) : ObjOk Pr w H h f (LamO f c' t cl dV) :=
  ⟨⟨pm, ctv, e⟩, ⟨_, e⟩, fun h1 h2 ⟨pm, ctv, z⟩ k => ⟨pm, ctv, k _ z⟩⟩
theorem codeO_ext {c : Addr} {q : Str} (ps : Array Value) : LamX.CodeO c q ≠ .tbl ps := LamX.codeO_ne ps
section
variable {X : Cx} {pins : List (Addr × Obj)} {σ : L2.St} {B H : Hp} {s : Shared} {c P : Addr} {t : LamT} {dV : Value} {pos : Pos} {firstLine : Nat} {E : Value → Shared → Prop} {Q : Value → Shared → Prop} {A : Around}
theorem lam_tail (I : Inv X pins σ H s) (TB : LamX.TabB X.base X.mg c P) (hcode : X.env.code = .ref c) (hq : t.q = X.env.qual ++ "<lambda>") (hT : TabB' B H P t.q) (hB : Ex B H) (hfree : ∀ y ∈ t.scope.names, y.2 = .free → ∃ c, X.env.cells.lookup y.1 = some c)
    (h : ∀ f c' H1 s', Inv X pins σ H1 s' → NewLam B H H1 P t (cloFrom X.env.cells t.scope.names []) f c' dV → Q (.ref f) s') :
    wpAny (model X.prog X.w) A (makeTail "<lambda>" (X.env.qual ++ "<lambda>") t.params (.expr t.body) t.scope X.env dV .none none pos firstLine) Q E s := by
  obtain ⟨ps, hP, ht, ha⟩ := hT
  have bP : s.heap.BuiltinsAt X.mg P := TB.bm.keeps I.bk
  have hP' : s.heap.get? P = some { cls := .none, data := .fields ps } := I.hok P _ hP
  rw [← hq]
  cases hc : codeAmong pos ps.toList with
  | none =>
    refine tail_new (mg := X.mg) (c := c) (P := P) (ps := ps) (closure_ok hfree) I.ok.glob (I.mod.glob.keeps I.bk) hcode (TB.code.keeps I.bk) hP' ht hc TB.gP bP fun c' pm ctv h' tk hx hge hlt hrec htb => ?_
    obtain ⟨c2, oc, vs, tt, e2, hoc, hd, hv⟩ := hrec
    cases e2
    have nC : H c' = none := I.hok.fresh hge
    have hsz : s.heap.objs.size ≤ h'.objs.size := Nat.le_trans hge (Nat.le_of_lt hlt)
    have nF : H h'.objs.size = none := I.hok.fresh hsz
    have nPc : P ≠ c' := ne_of_none hP nC
    have nfP : h'.objs.size ≠ P := Nat.ne_of_gt (Nat.lt_of_lt_of_le (Heap.lt_size hP') hsz)
    have nfC : h'.objs.size ≠ c' := Nat.ne_of_gt hlt
    have I1 := LamX.inv_table (q := t.q) (t' := tk) (more := #[rawInt pos.line, rawInt pos.col, .ref c']) (h' := h') I hP (fun b o hb e => hx b o hb e) htb hge ⟨oc, vs, tt, hoc, hd, hv⟩
    have I2 : Inv X pins σ (upd (upd (upd H P (.tbl (ps ++ #[rawInt pos.line, rawInt pos.col, .ref c']))) c' (LamX.CodeO c' t.q)) h'.objs.size (LamO h'.objs.size c' t (cloFrom X.env.cells t.scope.names []) dV)) { s with heap := h'.push { cls := .type "function", data := .func (lamFd t (cloFrom X.env.cells t.scope.names []) pm (.ref c') ctv dV) }, toks := tk } :=
      I1.laid (t' := tk) (a := h'.objs.size) (h' := h'.push { cls := .type "function", data := .func (lamFd t (cloFrom X.env.cells t.scope.names []) pm (.ref c') ctv dV) }) (fun b o e => Heap.get?_push_of_some _ e) (Nat.le_refl _) (lamO_ok (Heap.get?_push_size _ rfl))
    have eL : (ps ++ #[rawInt pos.line, rawInt pos.col, Value.ref c']).toList = ps.toList ++ [rawInt pos.line, rawInt pos.col, .ref c'] := by simp
    refine h _ c' _ _ I2 ⟨fun b o e hb => ?_, nF, nfC, upd_same, .inl nC, ?_, _, ?_, by rw [eL]; exact PySem.TriplesOk_snoc _ _ _ _ ht, fun p' cv hcv => ?_⟩
    · rw [upd_ne (ne_of_none e nF), upd_ne (ne_of_none e nC), upd_ne hb]
      exact e
    · rw [upd_ne (Ne.symm nfC), upd_same]
    · rw [upd_ne (Ne.symm nfP), upd_ne nPc, upd_same]
    · rw [eL] at hcv
      rcases LamX.among_app _ ht hcv with z | z
      · obtain ⟨c0, e1, e2⟩ := ha p' cv z
        exact ⟨c0, e1, .inl e2⟩
      · exact ⟨c', z, .inr rfl⟩
  | some cv =>
    obtain ⟨c', e, hco⟩ := ha pos cv hc
    subst e
    refine tail_hit (mg := X.mg) (c := c) (P := P) (ps := ps) (closure_ok hfree) I.ok.glob (I.mod.glob.keeps I.bk) hcode (TB.code.keeps I.bk) hP' ht hc bP fun pm ctv h' tk hx => ?_
    have I1 : Inv X pins σ H { s with heap := h', toks := tk } := I.kept hx
    have nF : H h'.objs.size = none := I1.hok.fresh (Nat.le_refl _)
    have I2 : Inv X pins σ (upd H h'.objs.size (LamO h'.objs.size c' t (cloFrom X.env.cells t.scope.names []) dV)) { s with heap := h'.push { cls := .type "function", data := .func (lamFd t (cloFrom X.env.cells t.scope.names []) pm (.ref c') ctv dV) }, toks := tk } :=
      I1.laid (t' := tk) (a := h'.objs.size) (h' := h'.push { cls := .type "function", data := .func (lamFd t (cloFrom X.env.cells t.scope.names []) pm (.ref c') ctv dV) }) (fun b o e => Heap.get?_push_of_some _ e) (Nat.le_refl _) (lamO_ok (Heap.get?_push_size _ rfl))
    have hcc := hB _ _ hco
    exact h _ c' _ _ I2 ⟨fun b o e hb => by rw [upd_ne (ne_of_none e nF)]; exact e, nF, Ne.symm (ne_of_none hcc nF), upd_same, .inr hco, by rw [upd_ne (ne_of_none hcc nF)]; exact hcc, ps, by rw [upd_ne (ne_of_none hP nF)]; exact hP, ht, fun p' cv hcv => let ⟨c0, e1, e2⟩ := ha p' cv hcv; ⟨c0, e1, .inl e2⟩⟩
/-- the defaults, as they lie -/
def DflAt (H Ha : Hp) (t : LamT) (dV : Value) : Prop := (Ha = H ∧ t.dfl = [] ∧ dV = .none) ∨ ∃ p, H p = none ∧ Ha = upd H p (.tup (t.dfl.map V.int)) ∧ t.dfl ≠ [] ∧ dV = .ref p
theorem lam_mk (I : Inv X pins σ H s) (TB : LamX.TabB X.base X.mg c P) (hcode : X.env.code = .ref c) (hq : t.q = X.env.qual ++ "<lambda>") (hT : TabB' B H P t.q) (hB : Ex B H) (hfree : ∀ y ∈ t.scope.names, y.2 = .free → ∃ c, X.env.cells.lookup y.1 = some c)
    (hdef : (t.dfl = [] ∧ defaultsOf t.params X.env = ([], [])) ∨ ∃ i j pc, t.dfl = [i] ∧ defaultsOf t.params X.env = ([eval (.Constant (.int i) j pc) X.env], []))
    (h : ∀ f c' dV Ha H1 s', Inv X pins σ H1 s' → DflAt H Ha t dV → NewLam B Ha H1 P t (cloFrom X.env.cells t.scope.names []) f c' dV → Q (.ref f) s') :
    wpAny (model X.prog X.w) X.A (eval (.Lambda t.params t.body t.scope pos) X.env) Q X.xe s := by
  rcases hdef with ⟨e1, e2⟩ | ⟨i, j, pc, e1, e2⟩
  · exact deflt_none e2 (lam_tail I TB hcode hq hT hB hfree fun f c' H1 s' I1 n => h f c' _ H H1 s' I1 (.inl ⟨rfl, e1, rfl⟩) n)
  · refine deflt_one e2 (thn ((pe_int (X := X) (i := i) (j := j) (pos := pc)).run pins s σ H (fun v H' => v = .int i ∧ H' = H) I ⟨rfl, rfl⟩) fun u s1 ⟨v, H', I1, rv, ev, eH⟩ => ?_)
    subst ev eH
    have hp : H' s1.heap.objs.size = none := I1.hok.fresh (Nat.le_refl _)
    have I2 : Inv X pins σ (upd H' s1.heap.objs.size (.tup [.int i])) { s1 with heap := s1.heap.push { cls := .type "tuple", data := .seq [u].toArray } } :=
      I1.laid (t' := s1.toks) (a := s1.heap.objs.size) (fun b o e => Heap.get?_push_of_some _ e) (Nat.le_refl _) ⟨by show 1 ≤ sizeLine; rw [sizeLine_eq]; decide, [u], .cons rv .nil, IsTup.new s1.heap _⟩
    obtain ⟨ps, hP, ht, ha⟩ := hT
    refine lam_tail (dV := .ref s1.heap.objs.size) I2 TB hcode hq ⟨ps, by rw [upd_ne (ne_of_none hP hp)]; exact hP, ht, ha⟩ (fun b o e => by rw [upd_ne (ne_of_none (hB b o e) hp)]; exact hB b o e) hfree fun f c' H1 s' I3 n => ?_
    refine h f c' _ (upd H' s1.heap.objs.size (.tup [.int i])) H1 s' I3 (.inr ⟨_, hp, by rw [e1]; rfl, by rw [e1]; exact List.cons_ne_nil _ _, rfl⟩) n
end
end G

/-! GLam2: a lambda as a value. -/
namespace G
open PySem PySem.Spec L2 PyProof.Rows
open Evl (Ex)
theorem lamO_ext {f c : Addr} {t : LamT} {cl : List (Str × Addr)} {dV : Value} (ps : Array Value) : LamO f c t cl dV ≠ .tbl ps := fun z => by
  have z' : HO.ext _ = HO.tbl ps := z
  cases z'
section
variable {K : PySem.W.Frag} {wd : Wd} {F H H1 : Hp} {cs : Cs} {P : Addr} {t : LamT} {cl : List (Str × Addr)} {f c' : Addr} {dV : Value}
def growB (B : Hp) (f c' : Addr) (t : LamT) (cl : List (Str × Addr)) (dV : Value) : Hp := fun b => if b = f then some (LamO f c' t cl dV) else if b = c' then some (LamX.CodeO c' t.q) else B b
theorem Rl.grow {B : Hp} (R : Rl K wd F cs H) (hBB : Ex B wd.B) (n : NewLam B H H1 P t cl f c' dV) (hP : (P, t.q) ∈ tabsOf K) (hu : ∀ p ∈ tabsOf K, p.1 = P → p.2 = t.q) :
    ∃ wd', wd.le wd' ∧ Rl K wd' F cs H1 ∧ wd'.B f = some (LamO f c' t cl dV) ∧ wd'.B c' = some (LamX.CodeO c' t.q) := by
  obtain ⟨ps0, hP0, _, _⟩ := R.tab _ hP
  have cn : H c' = none ∨ wd.B c' = some (LamX.CodeO c' t.q) := n.cn.imp id fun e => hBB _ _ e
  have fc : f ≠ c' := n.ne
  have ex : Ex wd.B (growB wd.B f c' t cl dV) := fun b o e => by
    unfold growB
    have hb : b ≠ f := ne_of_none (R.b b o e) n.fn
    rw [if_neg hb]
    by_cases hc : b = c'
    · rw [if_pos hc]
      subst hc
      rcases cn with e1 | e1
      · have e2 := R.b _ _ e
        rw [e1] at e2
        cases e2
      · rw [e1] at e
        exact e
    · rw [if_neg hc]
      exact e
  have le : wd.le ⟨growB wd.B f c' t cl dV, wd.r, wd.k⟩ := ⟨ex, fun _ _ h => h⟩
  have bf : growB wd.B f c' t cl dV f = some (LamO f c' t cl dV) := if_pos rfl
  have bc : growB wd.B f c' t cl dV c' = some (LamX.CodeO c' t.q) := (if_neg (Ne.symm fc)).trans (if_pos rfl)
  have inv : ∀ b o, growB wd.B f c' t cl dV b = some o → (b = f ∧ o = LamO f c' t cl dV) ∨ (b = c' ∧ o = LamX.CodeO c' t.q) ∨ wd.B b = some o := fun b o e => by
    unfold growB at e
    by_cases h1 : b = f
    · rw [if_pos h1] at e
      exact .inl ⟨h1, (Option.some.inj e).symm⟩
    · rw [if_neg h1] at e
      by_cases h2 : b = c'
      · rw [if_pos h2] at e
        exact .inr (.inl ⟨h2, (Option.some.inj e).symm⟩)
      · rw [if_neg h2] at e
        exact .inr (.inr e)
  have ext : ∀ b o, H b = some o → (∀ q, o ≠ .tbl q) → H1 b = some o := fun b o e nt => n.ext b o e (R.notbl hP0 e nt)
  refine ⟨_, le, ⟨?_, ?_, ?_, R.inj, ?_, ?_, R.top, R.rf, R.fe, ?_, ?_⟩, bf, bc⟩
  · intro b o e
    rcases inv b o e with ⟨h1, h2⟩ | ⟨h1, h2⟩ | h
    · rw [h1, h2]; exact n.ff
    · rw [h1, h2]; exact n.cc
    · exact ext b o (R.b b o h) fun q z => R.bt b q (by rw [h, z])
  · intro b o e
    exact ext b o (R.f b o e) (R.fe b o e).1
  · intro b o e
    rcases inv b o e with ⟨h1, h2⟩ | ⟨h1, h2⟩ | h
    · rw [h1]; exact Evl.fresh_back R.f n.fn
    · rw [h1]
      rcases cn with e1 | e1
      · exact Evl.fresh_back R.f e1
      · exact R.bf _ _ e1
    · exact R.bf b o h
  · intro m o e
    obtain ⟨a, u, e1, e2, e3, e4, e5⟩ := R.cell m o e
    refine ⟨a, u, e1, ?_, e3, ext a u e4 e5.notbl, e5.mono le⟩
    show growB wd.B f c' t cl dV a = none
    unfold growB
    rw [if_neg (ne_of_none e4 n.fn)]
    have hc : a ≠ c' := fun z => by
      subst z
      rcases cn with q | q
      · rw [q] at e4; cases e4
      · rw [q] at e2; cases e2
    rw [if_neg hc]
    exact e2
  · intro m a e
    obtain ⟨o, ho, hn⟩ := R.ran m a e
    exact ⟨o, ext a o ho hn, hn⟩
  · intro p hp
    by_cases h : p.1 = P
    · obtain ⟨ps, h1, h2, h3⟩ := n.tab
      rw [hu p hp h, h]
      refine ⟨ps, h1, h2, fun pos cv hc => ?_⟩
      obtain ⟨c2, e1, e2⟩ := h3 pos cv hc
      rcases e2 with e2 | e2
      · exact ⟨c2, e1, ex _ _ (hBB _ _ e2)⟩
      · exact ⟨c2, e1, by rw [e2]; exact bc⟩
    · obtain ⟨ps, h1, h2, h3⟩ := R.tab p hp
      exact ⟨ps, n.ext _ _ h1 h, h2, fun pos cv hc => let ⟨c2, e1, e2⟩ := h3 pos cv hc; ⟨c2, e1, ex _ _ e2⟩⟩
  · intro b q e
    rcases inv b _ e with ⟨h1, h2⟩ | ⟨h1, h2⟩ | h
    · exact lamO_ext q h2.symm
    · exact codeO_ext q h2.symm
    · exact R.bt b q h
end
/-- what the context knows of its own lambdas' table -/
structure LamC (X : Cx) (q : Str) : Prop where
  ex : ∃ c P, LamX.TabB X.base X.mg c P ∧ X.env.code = .ref c ∧ (P, q) ∈ tabsOf X.K ∧ ∀ p ∈ tabsOf X.K, p.1 = P → p.2 = q
  qn : q = X.env.qual ++ "<lambda>"
def tLamV (K : PySem.W.Frag) (t : LamT) (P : Addr) (cells : List (Str × Addr)) : TE := fun σ H Q => ∃ B, Ex B H ∧ TabB' B H P t.q ∧ ∀ f c' dV Ha H1, DflAt H Ha t dV → NewLam B Ha H1 P t (cloFrom cells t.scope.names []) f c' dV → Q (.ref f) H1
section
variable {X : Cx} {W : WX} {t : LamT} {pos : Pos}
theorem j_lam (j : Nat) (L : LamC X t.q) (hfree : X.Ok → ∀ y ∈ t.scope.names, y.2 = .free → ∃ c, X.env.cells.lookup y.1 = some c)
    (hdef : (t.dfl = [] ∧ defaultsOf t.params X.env = ([], [])) ∨ ∃ i j pc, t.dfl = [i] ∧ defaultsOf t.params X.env = ([eval (.Constant (.int i) j pc) X.env], [])) : JE X W (.Lambda t.params t.body t.scope pos) (.c (.clo j t X.env.cells)) := by
  obtain ⟨c, P, TB, hcode, hP, hu⟩ := L.ex
  refine ⟨tLamV X.K t P X.env.cells, ⟨fun pins s σ H Q I ⟨B, hB, hT, h⟩ => ?_⟩, fun wd F τ cs σ H PP PX Q R rs h q x => ?_⟩
  · exact lam_mk I TB hcode L.qn hT hB (hfree I.ok) hdef fun f c' dV Ha H1 s' I1 e1 n => ⟨.ref f, H1, I1, rfl, h f c' dV Ha H1 e1 n⟩
  · have h : PP (.clo j t X.env.cells) cs := h
    refine ⟨wd.B, R.b, R.tab _ hP, fun f c' dV Ha H1 e1 n => ?_⟩
    rcases e1 with ⟨e1, e2, e3⟩ | ⟨p, hp, e1, e2, e3⟩
    · subst e1
      obtain ⟨wd', le, R', b1, b2⟩ := R.grow (Ex.refl _) n hP hu
      exact q wd' (.clo j t X.env.cells) cs _ _ le R' ⟨f, c', dV, rfl, b1, b2, .inl ⟨e2, e3⟩⟩ h
    · subst e1
      obtain ⟨R1, l1⟩ := R.new hp (.tup (t.dfl.map V.int))
      obtain ⟨wd', le, R', b1, b2⟩ := R1.grow l1.B n hP hu
      exact q wd' (.clo j t X.env.cells) cs _ _ (l1.trans le) R' ⟨f, c', dV, rfl, b1, b2, .inr ⟨e2, p, e3, le.B _ _ upd_same⟩⟩ h
end
end G

/-! GLam3: a lambda called. -/
namespace G
open PySem PySem.Spec L2 PyProof.Rows
open Evl (Ex)
/-- the lambda's names: captured ones, globals, a parameter that no slot bears -/
structure LamN (N : List Str) (sc scope : Scope) : Prop where
  kind : scope.kind = .function
  co : scope.isCoroutine = false
  gen : scope.isGenerator = false
  own : ∀ y ∈ scope.names, y.2 ≠ .cell ∧ (y.2 = .local → y.1 ∉ N)
  free : ∀ y ∈ scope.names, y.2 = .free → sc.names.lookup y.1 = some .cell ∨ sc.names.lookup y.1 = some .free
def lamNB (N : List Str) (sc scope : Scope) : Bool :=
  decide (scope.kind = .function) && (!scope.isCoroutine && (!scope.isGenerator && scope.names.all fun y => !decide (y.2 = .cell) && ((!decide (y.2 = .local) || !decide (y.1 ∈ N)) && (!decide (y.2 = .free) || (decide (sc.names.lookup y.1 = some .cell) || decide (sc.names.lookup y.1 = some .free))))))
theorem lamN_by {N : List Str} {sc scope : Scope} (h : lamNB N sc scope = true) : LamN N sc scope := by
  unfold lamNB at h
  simp only [Bool.and_eq_true, Bool.or_eq_true, Bool.not_eq_true', decide_eq_true_eq, decide_eq_false_iff_not, List.all_eq_true] at h
  obtain ⟨h1, h2, h3, h4⟩ := h
  refine ⟨h1, h2, h3, fun y hy => ⟨(h4 y hy).1, fun e => ?_⟩, fun y hy e => ?_⟩
  · rcases (h4 y hy).2.1 with z | z
    · exact absurd e z
    · exact z
  · rcases (h4 y hy).2.2 with z | z
    · exact absurd e z
    · exact z
theorem LamN.has {X : Cx} {scope : Scope} (L : LamN X.N X.env.scope scope) (ok : X.Ok) : ∀ y ∈ scope.names, y.2 = .free → ∃ c, X.env.cells.lookup y.1 = some c := fun y hy e => by
  rcases L.free y hy e with k | k
  · exact ok.has _ (.inl k)
  · exact ok.has _ (.inr k)
/-- the context of a lambda's body, entered at s from the frames outer -/
def lamX (X : Cx) (A : Around) (outer : List Env) (s : Shared) (H : Hp) (E : XK) (scope : Scope) (f c' : Addr) : Cx where
  prog := X.prog
  w := X.w
  K := X.K
  mg := X.mg
  base := X.base
  A := A.deeper (LamX.lamEnv X scope s.heap.objs.size f c')
  N := X.N
  s_0 := s
  H_0 := H
  env := LamX.lamEnv X scope s.heap.objs.size f c'
  outer := outer
  stack := LamX.lamEnv X scope s.heap.objs.size f c' :: outer
  ex := []
  fn := fun _ => false
  calm := true
  pn := []
  xe := fun e s' => wpAny (model X.prog X.w) (A.deeper (LamX.lamEnv X scope s.heap.objs.size f c')) (leaving (LamX.lamEnv X scope s.heap.objs.size f c') e) (fun _ s'' => L2N.CX X.prog X.w outer H s E e s'') (fun e' s'' => L2N.CX X.prog X.w outer H s E e' s'') s'
section
variable {X : Cx} {pins : List (Addr × Obj)} {σ : L2.St} {H HZ : Hp} {s s1 : Shared}
theorem lam_enter {A : Around} {outer : List Env} {E : XK} {scope : Scope} {f c' : Addr} {h₁ : Heap} {tk : Nat} {m : Str → Option Value} (I : Inv X pins σ H s) (L : LamN X.N X.env.scope scope) (e0 : Env0 X.prog X.w X.K X.mg X.base A outer s1 HZ) (hd : A.handled = none)
    {ex : List Addr} (un : Un (frs X.stack) ex H HZ s.heap s1.heap) (hex : ∀ y c, X.env.cells.lookup y = some c → c ∉ ex) (hns : h₁.Ns s1.heap.objs.size m) (kp : ∀ b o, s1.heap.get? b = some o → h₁.get? b = some o) :
    Inv (lamX X A outer s1 HZ E scope f c') [] σ HZ { s1 with heap := h₁, toks := tk } := by
  have hfree := L.has I.ok
  have cm : ∀ {y c}, (cloFrom X.env.cells scope.names []).lookup y = some c → X.env.cells.lookup y = some c := fun {y c} e => by
    rcases cloFrom_mem (PySem.mem_of_lookup e) with hm | ⟨h1, h2⟩
    · cases hm
    · obtain ⟨c1, hc⟩ := hfree _ h1 rfl
      have hc : X.env.cells.lookup y = some c1 := hc
      have e2 : c = c1 := by rw [h2, hc] <;> rfl
      rw [e2]
      exact hc
  have look : ∀ {y}, scope.names.lookup y = some .free → ∃ c, (cloFrom X.env.cells scope.names []).lookup y = some c := fun {y} hl =>
    mem_lookup (cloFrom_has (cells := X.env.cells) (acc := []) (PySem.mem_of_lookup hl))
  have cellK : ∀ {c : Addr} {v : Option Value}, c ∉ ex → H c = none → s.heap.IsCell c v → h₁.IsCell c v := fun {c v} nx n ⟨o, ho, hd⟩ => by
    obtain ⟨sl, q⟩ := un.any ho n nx
    exact ⟨_, kp _ _ q, hd⟩
  have noA : ∀ b : Addr, b ∉ (lamX X A outer s1 HZ E scope f c').ex := fun b z => absurd (show b ∈ ([] : List Addr) from z) (by simp)
  have okL : (lamX X A outer s1 HZ E scope f c').Ok := by
    constructor
    · exact e0.mod
    · exact L.kind
    · rfl
    · rfl
    · exact Nat.le_refl _
    · exact fun y z c e1 e2 => I.ok.inj y z c (cm e1) (cm e2)
    · intro y hy
      have hy : scope.names.lookup y = some .cell ∨ scope.names.lookup y = some .free := hy
      rcases hy with hy | hy
      · exact absurd rfl (L.own _ (PySem.mem_of_lookup hy)).1
      · exact look hy
    · intro y c z _
      have z : false = true := z
      cases z
    · exact fun _ => hd
    · exact Around.frames_deeper e0.frames
    · exact .inr ⟨rfl, rfl⟩
    · exact fun b z => absurd z (noA b)
    · exact e0.bs
    · exact e0.bsz
    · exact fun b _ _ => noA b
    · exact fun b z => absurd z (noA b)
    · exact e0.funs
    · exact e0.frf
  refine ⟨okL, rfl, e0.bare, Un.kept kp, ⟨_, hns, fun i y v e1 e2 e3 => ?_⟩, fun y c e => ?_, e0.hok.fresh (Nat.le_refl _), fun y c e => ?_, fun q hq => absurd (show q ∈ ([] : List (Addr × Obj)) ++ [] from hq) (by simp), e0.hok.kept kp, I.len⟩
  · have e3 : Vis scope y := e3
    rcases e3 with k | k | k
    · exact absurd (List.mem_of_getElem? e1) ((L.own _ (PySem.mem_of_lookup k)).2 rfl)
    · exact absurd rfl (L.own _ (PySem.mem_of_lookup k)).1
    · obtain ⟨m, hn, hl⟩ := I.loc
      have hvis : Vis X.env.scope y := (L.free _ (PySem.mem_of_lookup k) rfl).elim (fun k => .inr (.inl k)) (fun k => .inr (.inr k))
      obtain ⟨w', r, q⟩ := hl i y v e1 e2 hvis
      obtain ⟨c2, h2⟩ := look k
      refine ⟨w', r, .inr ⟨.inr k, c2, h2, ?_⟩⟩
      have c1 := cm h2
      rcases q with ⟨k', _⟩ | ⟨_, c3, e', z⟩
      · have k' : X.env.scope.names.lookup y = some .local := k'
        rcases L.free _ (PySem.mem_of_lookup k) rfl with k2 | k2 <;> rw [show X.env.scope.names.lookup y = _ from k2] at k' <;> cases k'
      · rw [c1] at e'
        cases e'
        exact cellK (hex y _ c1) (I.freeC y _ c1) z
  · obtain ⟨w', z⟩ := I.cell y c (cm e)
    exact ⟨w', cellK (hex y c (cm e)) (I.freeC y c (cm e)) z⟩
  · obtain ⟨v, o, ho, hd⟩ := I.cell y c (cm e)
    exact un.free c o ho (I.freeC y c (cm e)) (hex y c (cm e))
end
/-- how the lambda's call binds -/
def LamBind (t : LamT) : Prop := (t.dfl = [] ∧ ∀ cl pm cv ctv, bindArgs (lamFd t cl pm cv ctv .none) ⟨[], []⟩ = pure []) ∨
  ∃ i a, t.dfl = [i] ∧ t.scope.names.lookup a = some .local ∧ ∀ cl pm cv ctv p, ∃ k, bindArgs (lamFd t cl pm cv ctv (.ref p)) ⟨[], []⟩ = seqItems? (.ref p) >>= k ∧ ∀ v, k (some #[v]) = pure [(a, v)]
/-- the lambda at f, as it lies -/
def LamAt (H : Hp) (t : LamT) (cl : List (Str × Addr)) (f : Addr) : Prop := ∃ (c : Addr) (dV : Value), H f = some (LamO f c t cl dV) ∧ H c = some (LamX.CodeO c t.q) ∧ ((t.dfl = [] ∧ dV = .none) ∨ (t.dfl ≠ [] ∧ ∃ p, dV = .ref p ∧ H p = some (.tup (t.dfl.map V.int))))
/-- f may be called without arguments at any state behind (s, H): tl its reading there -/
def LamRun (P : Program) (w : World) (K : PySem.W.Frag) (mg : Str → Option Value) (base : Heap) (k : Nat) (fs : List Addr) (f : Addr) (s : Shared) (H : Hp) (tl : XK → Hp → VK → Prop) : Prop :=
  ∀ (A : Around) (stk : List Env) (s1 : Shared) (H1 : Hp) (Q : VK) (E : XK), Room (k + 1) A → Env0 P w K mg base A stk s1 H1 → Un fs [] H H1 s.heap s1.heap → tl E H1 Q → codeAny (model P w) A (.call (.ref f) ⟨[], []⟩) (CR (L2N.CX P w) stk P w H1 s1 Q E) s1
section
variable {X : Cx} {pins : List (Addr × Obj)} {σ : L2.St} {H : Hp} {s : Shared} {t : LamT} {k : Nat} {te : XK → TE}
theorem lam_runX {ex : List Addr} (hex : ∀ y c, X.env.cells.lookup y = some c → c ∉ ex) (I : Inv X pins σ H s) (L : LamN X.N X.env.scope t.scope) (hb : LamBind t) (hq : t.q = X.env.qual ++ "<lambda>")
    (hbody : ∀ (A : Around) (outer : List Env) (s : Shared) (H : Hp) (E : XK) (f c' : Addr), Room k (A.deeper (LamX.lamEnv X t.scope s.heap.objs.size f c')) → A.handled = none → PE (lamX X A outer s H E t.scope f c') t.body (te E)) (f : Addr) :
    ∀ (A : Around) (stk : List Env) (s1 : Shared) (H1 : Hp) (Q : VK) (E : XK), Room (k + 1) A → Env0 X.prog X.w X.K X.mg X.base A stk s1 H1 → Un (frs X.stack) ex H H1 s.heap s1.heap → (LamAt H1 t (cloFrom X.env.cells t.scope.names []) f ∧ te E σ H1 Q) → codeAny (model X.prog X.w) A (.call (.ref f) ⟨[], []⟩) (CR (L2N.CX X.prog X.w) stk X.prog X.w H1 s1 Q E) s1 := by
  intro A stk s1 H1 Q E hr e0 un ⟨⟨c', dV, hf, hc, hdv⟩, hte⟩
  obtain ⟨⟨pm, ctv, of1⟩, _, _⟩ := e0.hok f _ hf
  obtain ⟨⟨oc, vs, tt, hoc, hdc, hvc⟩, _, _⟩ := e0.hok c' _ hc
  have KX : X.K.In s1.heap := e0.mod.kin.keeps fun b o e => (e0.bs b o e).1
  have lim : s1.heap.NoLimit := e0.mod.nolimit.keeps fun b o e => (e0.bs b o e).1
  refine PySem.W.kla_callFunE hr.depth of1 rfl L.co L.gen rfl ⟨c', oc, vs, tt, rfl, hoc, hdc, hvc⟩ ?_
  have go : ∀ binds : List (Str × Value), (∀ x ∈ binds, t.scope.names.lookup x.1 = some .local) →
      wpAny (model X.prog X.w) A.in1 (newFunctionEnv t.scope mainGlobals (cloFrom X.env.cells t.scope.names []) binds (t.q ++ ".<locals>.") (some f) (.ref c') none builtinsNs)
        (fun env s₂ => s₂.heap.NoLimit ∧ codeAny (model X.prog X.w) A (.expr t.body env) (CR (L2N.CX X.prog X.w) stk X.prog X.w H1 s1 Q E) s₂) (fun e s' => CR (L2N.CX X.prog X.w) stk X.prog X.w H1 s1 Q E (.error e) s') s1 := by
    intro binds hl
    refine wpAny_newFunctionEnv (fun y hy => (L.own y hy).1) hl (fun h₁ hns hsb => ⟨lim.fresh _ hsb, ?_⟩) L.kind
    rw [hq]
    show codeAny _ _ (.expr t.body (LamX.lamEnv X t.scope s1.heap.objs.size f c')) _ _
    have kp : ∀ b o, s1.heap.get? b = some o → h₁.get? b = some o := fun b o e => hsb.extBut b o (Nat.ne_of_lt (Heap.lt_size e)) (Heap.get?_push_of_some _ e)
    have J := lam_enter (A := A) (outer := stk) (E := E) (f := f) (c' := c') (tk := s1.toks + binds.length) I L e0 hr.hd un hex hns kp
    refine PySem.W.kla_codeExpr (wpAny_mono ((hbody A stk s1 H1 E f c' (hr.deeper _) hr.hd).run [] _ σ H1 Q J hte) (fun v s' hq => ?_) fun e s' hq => hq)
    obtain ⟨w', H', J', rv, q⟩ := hq
    exact ⟨w', H', J'.os, J'.bare, J'.base, J'.hok, rv, q⟩
  rcases hb with ⟨d1, hb⟩ | ⟨i, a, d1, ha, hb⟩
  · have e : dV = .none := by
      rcases hdv with ⟨_, e⟩ | ⟨z, _⟩
      · exact e
      · exact absurd d1 z
    subst e
    rw [hb]
    exact wpAny_pure (go [] fun x hx => absurd hx (by simp))
  · obtain ⟨p, e, hp⟩ : ∃ p, dV = .ref p ∧ H1 p = some (.tup (t.dfl.map V.int)) := by
      rcases hdv with ⟨z, _⟩ | ⟨_, z⟩
      · rw [d1] at z
        cases z
      · exact z
    subst e
    obtain ⟨k', e1, e2⟩ := hb (cloFrom X.env.cells t.scope.names []) pm (.ref c') ctv p
    rw [e1]
    rw [d1] at hp
    obtain ⟨_, its, rv, o, ho, _, n, hd⟩ := e0.hok p _ hp
    have hits : ∃ v, its = [v] := by
      cases rv with
      | cons r1 r2 =>
        cases r2
        exact ⟨_, rfl⟩
    obtain ⟨v, ev⟩ := hits
    subst ev
    refine wpAny_bind (wpAny_seqItems ho hd ?_)
    rw [e2 v]
    exact wpAny_pure (go [(a, v)] fun x hx => by
      have : x = (a, v) := by simpa using hx
      rw [this]
      exact ha)
theorem lam_run (I : Inv X pins σ H s) (L : LamN X.N X.env.scope t.scope) (hb : LamBind t) (hq : t.q = X.env.qual ++ "<lambda>")
    (hbody : ∀ (A : Around) (outer : List Env) (s : Shared) (H : Hp) (E : XK) (f c' : Addr), Room k (A.deeper (LamX.lamEnv X t.scope s.heap.objs.size f c')) → A.handled = none → PE (lamX X A outer s H E t.scope f c') t.body (te E)) (f : Addr) :
    LamRun X.prog X.w X.K X.mg X.base k (frs X.stack) f s H fun E H1 Q => LamAt H1 t (cloFrom X.env.cells t.scope.names []) f ∧ te E σ H1 Q :=
  lam_runX (ex := []) (fun _ _ _ z => by cases z) I L hb hq hbody f
end
theorem Un.deep {fs : List Addr} {L : Addr} {H H1 H2 : Hp} {h h1 h2 : Heap} (a : Un fs [] H H1 h h1) (b : Un (L :: fs) [] H1 H2 h1 h2) (hL : h.get? L = none) : Un fs [] H H2 h h2 := by
  have nL : ∀ c o, h.get? c = some o → c ≠ L := fun c o e z => by
    rw [z, hL] at e
    cases e
  constructor
  · intro c o q n hc hx
    refine b.keep c o (a.keep c o q n hc hx) (a.free c o q n hx) (fun z => ?_) hx
    rcases List.mem_cons.mp z with z | z
    · exact nL c o q z
    · exact hc z
  · intro c o q n hc hx
    obtain ⟨sl, e1⟩ := a.slot c o q n hc hx
    obtain ⟨sl', e2⟩ := b.slot c _ e1 (a.free c o q n hx) (List.mem_cons_of_mem _ hc) hx
    exact ⟨sl', e2⟩
  · intro c o q n hx
    obtain ⟨o', e1⟩ := a.there c o q hx
    exact b.free c o' e1 (a.free c o q n hx) hx
  · intro c o q hx
    obtain ⟨o', e1⟩ := a.there c o q hx
    exact b.there c o' e1 hx
  · exact fun c xs q => b.tups c xs (a.tups c xs q)
  · exact fun c o u q => b.frzs c o u (a.frzs c o u q)
  · intro c ps q
    obtain ⟨m1, e1⟩ := a.tbls c ps q
    obtain ⟨m2, e2⟩ := b.tbls c _ e1
    exact ⟨m1 ++ m2, by rw [e2, Array.append_assoc]⟩
theorem LamRun.deep {P : Program} {w : World} {K : PySem.W.Frag} {mg : Str → Option Value} {base : Heap} {k : Nat} {fs : List Addr} {f L : Addr} {s s2 : Shared} {H H2 : Hp} {tl : XK → Hp → VK → Prop} (R : LamRun P w K mg base k fs f s H tl) (u : Un fs [] H H2 s.heap s2.heap) (hL : s.heap.get? L = none) : LamRun P w K mg base k (L :: fs) f s2 H2 tl :=
  fun A stk s1 H1 Q E hr e0 un q => R A stk s1 H1 Q E hr e0 (Un.deep u un hL) q
end G

/-! GFld: a caught error's tag and field; the def that tells the field. -/
namespace G
open PySem PySem.Spec L2 PyProof.Rows L2H
open Evl (Ex)
/-- the heap with new tuples -/
structure TupX (H H' : Hp) : Prop where
  ex : Ex H H'
  new : ∀ b o, H' b = some o → H b = some o ∨ (H b = none ∧ ∃ xs, o = .tup xs)
theorem TupX.refl (H : Hp) : TupX H H := ⟨Ex.refl H, fun b o e => .inl e⟩
theorem TupX.trans {a b c : Hp} (h : TupX a b) (k : TupX b c) : TupX a c := ⟨h.ex.trans k.ex, fun x o e => by
  rcases k.new x o e with z | ⟨z, w⟩
  · exact h.new x o z
  · refine .inr ⟨?_, w⟩
    cases q : a x with
    | none => rfl
    | some u =>
      have := h.ex x u q
      rw [z] at this
      cases this⟩
theorem TupX.one {H : Hp} {p : Addr} {xs : List V} (h : H p = none) : TupX H (upd H p (.tup xs)) := ⟨Ex.new h, fun b o e => by
  by_cases hb : b = p
  · subst hb
    rw [upd_same] at e
    exact .inr ⟨h, xs, (Option.some.inj e).symm⟩
  · rw [upd_ne hb] at e
    exact .inl e⟩
/-- what the written part says of an error class whose instances are read -/
structure XcR (K : PySem.W.Frag) (C : Addr) (f : Str) : Prop where
  r : XfC K C
  tg : PySem.W.findIn K (.ref C) "tag" = some none
  fl : PySem.W.findIn K (.ref C) f = some none
/-- the caught error p: its tag x, its field f with the value v -/
def ErrAt (K : PySem.W.Frag) (p : Addr × Obj) (H : Hp) (x f : Str) (v : V) : Prop := ∃ C dd fs, p.2.cls = .ref C ∧ p.2.dict = some dd ∧ (∃ vs, p.2.data = .fields vs) ∧ H dd = some (.xd fs) ∧ fs.lookup ("tag" : Str) = some (.str x) ∧ fs.lookup f = some v ∧ XcR K C f
theorem ErrAt.mono {K : PySem.W.Frag} {p : Addr × Obj} {H H' : Hp} {x f : Str} {v : V} (h : ErrAt K p H x f v) (e : Ex H H') : ErrAt K p H' x f v := by
  obtain ⟨C, dd, fs, h1, h2, h3, h4, h5⟩ := h
  exact ⟨C, dd, fs, h1, h2, h3, e _ _ h4, h5⟩
section
variable {X : Cx} {p : Addr × Obj} {e : Expr} {te : TE} {pos : Pos} {n : Str}
theorem pe_xp (hp : p ∈ X.pn) (he : PE X e te) (hb : attributeBase e n X.env (eval e X.env) = eval e X.env := by rfl) :
    PE X (.Attribute e n pos) (fun σ H Q => te σ H fun x H1 => x = .ref p.1 ∧ ∃ C dd fs v, p.2.cls = .ref C ∧ p.2.dict = some dd ∧ (∃ vs, p.2.data = .fields vs) ∧ H1 dd = some (.xd fs) ∧ fs.lookup n = some v ∧ XfC X.K C ∧ PySem.W.findIn X.K (.ref C) n = some none ∧ Q v H1) := by
  refine ⟨fun pins s σ H Q I h => ?_⟩
  refine attr_of hb (thn (he.run pins s σ H _ I h) fun u s1 hh => ?_)
  obtain ⟨x, H1, I1, rx, ex, C, dd, fs, v, ec, ed, ⟨vs, hd⟩, ea, l, T, hno, q⟩ := hh
  subst ex
  obtain rfl : u = Value.ref p.1 := rx
  obtain ⟨ha, _⟩ := I1.pin p (List.mem_append_left _ hp)
  obtain ⟨mA, hns, hr⟩ := (show ObjOk X.prog X.w H1 s1.heap dd (.xd fs) from I1.hok dd _ ea)
  obtain ⟨od, ho, hl⟩ := lookIn_ns hns
  obtain ⟨u, hu, ru⟩ := RelO.some_of (v := v) (o := mA n) (by rw [← l]; exact hr n)
  have J : PySem.W.InstAt s1.heap p.1 p.2 C (some od) := ⟨ha, ec, by unfold PySem.W.notCls; rw [hd] <;> rfl, by rw [ed]; exact ho⟩
  exact HandSPX.exc_get I1.kIn J T.ga T.gg T.exC (PySem.W.findObj_own T.hdC hno rfl (by rw [hl, hu])) (handed_of ru) ⟨v, H1, I1.tok _, ru, q⟩
inductive StrCs : List Expr → List Str → Prop
  | nil : StrCs [] []
  | cons {s : Str} {j : Nat} {q : Pos} {es : List Expr} {l : List Str} (h : StrCs es l) : StrCs (.Constant (.str s) j q :: es) (s :: l)
theorem pa_strs {es : List Expr} {l : List Str} (h : StrCs es l) : PA X es (fun σ H Q => Q (l.map V.str) H) := by
  induction h with
  | nil => exact ⟨fun pos pins s σ H Q I q => pa_nil.run pos pins s σ H Q I q⟩
  | cons h ih => exact ⟨fun pos pins s σ H Q I q => (pa_cons pe_str ih rfl).run pos pins s σ H Q I q⟩
theorem inV_strs {x : Str} : ∀ {l : List Str}, inV (.str x) (l.map V.str) = decide (x ∈ l)
  | [] => rfl
  | y :: l => by
    have ih := inV_strs (x := x) (l := l)
    unfold inV at ih ⊢
    rw [List.map_cons, List.any_cons, ih]
    have e : eqV (.str y) (.str x) = decide (x = y) := by
      show decide (y = x) = decide (x = y) <;> exact decide_eq_decide.mpr ⟨Eq.symm, Eq.symm⟩
    rw [e]
    by_cases h : x = y
    · simp [h]
    · simp [h]
theorem flat_strs : ∀ l : List Str, (l.map V.str).all flatV = true
  | [] => rfl
  | y :: l => by
    rw [List.map_cons, List.all_cons, flat_strs l]
    rfl
/-- the tag is one of these -/
def tTagIn (K : PySem.W.Frag) (p : Addr × Obj) (l : List Str) : TT := fun σ H Q => σ[0]? = some (some (.ref p.1)) ∧ ∃ x f v, ErrAt K p H x f v ∧ ∀ H', TupX H H' → Q (decide (x ∈ l)) H'
def tFldE (K : PySem.W.Frag) (p : Addr × Obj) (fn : Str) : TE := fun σ H Q => σ[0]? = some (some (.ref p.1)) ∧ ∃ x v, ErrAt K p H x fn v ∧ Q v H
variable {es : List Expr} {l : List Str} {q1 q2 q3 q4 : Pos} {k : Nat}
theorem pt_tagIn (hp : p ∈ X.pn) (hN : X.N[0]? = some ("_law_e" : Str)) (hv : Vis X.env.scope "_law_e") (hl : l.length ≤ 100) (h : StrCs es l) (hm : behindInMarks .In (.Tuple es k q3) = false) : PT X (.Compare (.Attribute (.Name "_law_e" q1) "tag" q2) [.In] [.Tuple es k q3] q4) (tTagIn X.K p l) := by
  refine ⟨fun pins s σ H Q I ⟨h0, x, f, v, ⟨C, dd, fs, e1, e2, e3, e4, e5, e6, T⟩, hq⟩ => ?_⟩
  refine (pt_cmpR op_in_seq (pe_xp hp (pe_var (i := 0) hN hv)) (pe_tup (pa_strs h)) hm).run pins s σ H Q I ?_
  refine ⟨.ref p.1, h0, rfl, C, dd, fs, .str x, e1, e2, e3, e4, e5, T.r, T.tg, ?_, fun pp hpp => ?_⟩
  · rw [List.length_map, sizeLine_eq]
    omega
  · refine ⟨pp, _, rfl, .inr (SqT.of upd_same), rfl, flat_strs l, _, rfl, ?_⟩
    show Q (inV (.str x) (l.map V.str)) _
    rw [inV_strs]
    exact hq _ (TupX.one hpp)
theorem pe_fldE (hp : p ∈ X.pn) (hN : X.N[0]? = some ("_law_e" : Str)) (hv : Vis X.env.scope "_law_e") (hb : attributeBase (.Name "_law_e" q1) n X.env (eval (.Name "_law_e" q1) X.env) = eval (.Name "_law_e" q1) X.env) : PE X (.Attribute (.Name "_law_e" q1) n q2) (tFldE X.K p n) := by
  refine ⟨fun pins s σ H Q I ⟨h0, x, v, ⟨C, dd, fs, e1, e2, e3, e4, e5, e6, T⟩, hq⟩ => ?_⟩
  exact (pe_xp hp (pe_var (i := 0) hN hv) hb).run pins s σ H Q I ⟨.ref p.1, h0, rfl, C, dd, fs, v, e1, e2, e3, e4, e6, T.r, T.fl, hq⟩
theorem ifd {c : Prop} [Decidable c] {A B : Prop} (h : c) (a : A) : if decide c = true then A else B := by
  rw [if_pos (decide_eq_true h)]
  exact a
theorem ifn {c : Prop} [Decidable c] {A B : Prop} (h : ¬ c) (b : B) : if decide c = true then A else B := by
  rw [if_neg (by simpa using h)]
  exact b
theorem fld_body (hp : p ∈ X.pn) (hN : X.N[0]? = some ("_law_e" : Str)) (hv : Vis X.env.scope "_law_e") {p1 p2 p3 p4 p5 p6 p7 p8 p9 p10 p11 p12 p13 p14 p15 p16 p17 p18 p19 p20 p21 p22 p23 p24 p25 p26 p27 p28 p29 p30 p31 p32 p33 p34 p35 p36 p37 p38 p39 p40 p41 p42 p43 p44 p45 p46 p47 p48 p49 p50 p51 p52 p53 p54 p55 p56 p57 p58 p59 p60 p61 p62 p63 p64 p65 p66 p67 p68 p69 p70 p71 p72 p73 p74 p75 p76 p77 p78 p79 p80 p81 : Pos} {x f : Str} {v : V} {D : L2.Ends} {σ : L2.St} {H : Hp} (h0 : σ[0]? = some (some (.ref p.1))) (he : ErrAt X.K p H x f v) (hf : fname x = some f) (hq : ∀ H', TupX H H' → D.rt v H') :
    ∃ t, PSs X ([ (.If ((.Compare ((.Attribute (.Name "_law_e" p1) "tag" p2)) ([.In]) ([ (.Tuple ([ (.Constant (.str "BadParent") 0 p3), (.Constant (.str "Cycle") 0 p4), (.Constant (.str "NotRoot") 0 p5), (.Constant (.str "SameRoot") 0 p6), (.Constant (.str "RootsDiffer") 0 p7), (.Constant (.str "NoWay") 0 p8), (.Constant (.str "BadWeight") 0 p9), (.Constant (.str "NoNode") 0 p10)]) (0) (p11))]) (p12))) ([ (.Return ((some (.Attribute (.Name "_law_e" p13) "node" p14))) (p15))]) ([]) (p16)), (.If ((.Compare ((.Attribute (.Name "_law_e" p17) "tag" p18)) ([.In]) ([ (.Tuple ([ (.Constant (.str "TooManyNodes") 0 p19), (.Constant (.str "TooLong") 0 p20), (.Constant (.str "TooManyForests") 0 p21), (.Constant (.str "TooManyWatches") 0 p22)]) (0) (p23))]) (p24))) ([ (.Return ((some (.Attribute (.Name "_law_e" p25) "limit" p26))) (p27))]) ([]) (p28)), (.If ((.Compare ((.Attribute (.Name "_law_e" p29) "tag" p30)) ([.In]) ([ (.Tuple ([ (.Constant (.str "BadStep") 0 p31), (.Constant (.str "BadCost") 0 p32), (.Constant (.str "Contradiction") 0 p33), (.Constant (.str "ParseError") 0 p34)]) (0) (p35))]) (p36))) ([ (.Return ((some (.Attribute (.Name "_law_e" p37) "pos" p38))) (p39))]) ([]) (p40)), (.If ((.Compare ((.Attribute (.Name "_law_e" p41) "tag" p42)) ([.In]) ([ (.Tuple ([ (.Constant (.str "SizesDiffer") 0 p43), (.Constant (.str "BadSize") 0 p44)]) (0) (p45))]) (p46))) ([ (.Return ((some (.Attribute (.Name "_law_e" p47) "size" p48))) (p49))]) ([]) (p50)), (.If ((.Compare ((.Attribute (.Name "_law_e" p51) "tag" p52)) ([.In]) ([ (.Tuple ([ (.Constant (.str "BadName") 0 p53), (.Constant (.str "NameTaken") 0 p54), (.Constant (.str "NoForest") 0 p55)]) (0) (p56))]) (p57))) ([ (.Return ((some (.Attribute (.Name "_law_e" p58) "name" p59))) (p60))]) ([]) (p61)), (.If ((.Compare ((.Attribute (.Name "_law_e" p62) "tag" p63)) ([.In]) ([ (.Tuple ([ (.Constant (.str "BadCommand") 0 p64), (.Constant (.str "BadCount") 0 p65)]) (0) (p66))]) (p67))) ([ (.Return ((some (.IfExp ((.Compare ((.Attribute (.Name "_law_e" p68) "tag" p69)) ([.Eq]) ([(.Constant (.str "BadCommand") 0 p70)]) (p71))) ((.Attribute (.Name "_law_e" p72) "word" p73)) ((.Attribute (.Name "_law_e" p74) "count" p75)) (p76)))) (p77))]) ([]) (p78)), (.Return ((some (.Attribute (.Name "_law_e" p79) "number" p80))) (p81))]) t ∧ t D σ H := by
  refine ⟨_, pss_cons (ps_if (pt_tagIn hp hN hv (by decide) (.cons (.cons (.cons (.cons (.cons (.cons (.cons (.cons .nil)))))))) rfl) (pss_one (ps_ret (pe_fldE hp hN hv rfl))) pss_nil)
    (pss_cons (ps_if (pt_tagIn hp hN hv (by decide) (.cons (.cons (.cons (.cons .nil)))) rfl) (pss_one (ps_ret (pe_fldE hp hN hv rfl))) pss_nil)
    (pss_cons (ps_if (pt_tagIn hp hN hv (by decide) (.cons (.cons (.cons (.cons .nil)))) rfl) (pss_one (ps_ret (pe_fldE hp hN hv rfl))) pss_nil)
    (pss_cons (ps_if (pt_tagIn hp hN hv (by decide) (.cons (.cons .nil)) rfl) (pss_one (ps_ret (pe_fldE hp hN hv rfl))) pss_nil)
    (pss_cons (ps_if (pt_tagIn hp hN hv (by decide) (.cons (.cons (.cons .nil))) rfl) (pss_one (ps_ret (pe_fldE hp hN hv rfl))) pss_nil)
    (pss_cons (ps_if (pt_tagIn hp hN hv (by decide) (.cons (.cons .nil)) rfl) (pss_one (ps_ret (pe_ifExp (pt_cmpR op_eq (pe_xp hp (pe_var (i := 0) hN hv) rfl) pe_str (nomark _)) (pe_fldE hp hN hv rfl) (pe_fldE hp hN hv rfl)))) pss_nil)
    (pss_one (ps_ret (pe_fldE hp hN hv rfl)))))))), ?_⟩
  unfold fname at hf
  refine ⟨h0, x, f, v, he, fun H1 x1 => ?_⟩
  split at hf
  · rename_i c
    refine ifd c ?_
    cases hf
    exact ⟨h0, x, v, he.mono x1.ex, hq _ x1⟩
  rename_i c
  refine ifn c ?_
  refine ⟨h0, x, f, v, he.mono x1.ex, fun H2 x2 => ?_⟩
  have x2 := x1.trans x2
  split at hf
  · rename_i c
    refine ifd c ?_
    cases hf
    exact ⟨h0, x, v, he.mono x2.ex, hq _ x2⟩
  rename_i c
  refine ifn c ?_
  refine ⟨h0, x, f, v, he.mono x2.ex, fun H3 x3 => ?_⟩
  have x3 := x2.trans x3
  split at hf
  · rename_i c
    refine ifd c ?_
    cases hf
    exact ⟨h0, x, v, he.mono x3.ex, hq _ x3⟩
  rename_i c
  refine ifn c ?_
  refine ⟨h0, x, f, v, he.mono x3.ex, fun H4 x4 => ?_⟩
  have x4 := x3.trans x4
  split at hf
  · rename_i c
    refine ifd c ?_
    cases hf
    exact ⟨h0, x, v, he.mono x4.ex, hq _ x4⟩
  rename_i c
  refine ifn c ?_
  refine ⟨h0, x, f, v, he.mono x4.ex, fun H5 x5 => ?_⟩
  have x5 := x4.trans x5
  split at hf
  · rename_i c
    refine ifd c ?_
    cases hf
    exact ⟨h0, x, v, he.mono x5.ex, hq _ x5⟩
  rename_i c
  refine ifn c ?_
  refine ⟨h0, x, f, v, he.mono x5.ex, fun H6 x6 => ?_⟩
  have x6 := x5.trans x6
  have he6 := he.mono x6.ex
  split at hf
  · rename_i c
    subst c
    cases hf
    refine ifd (by decide) ?_
    obtain ⟨C, dd, fs, e1, e2, e3, e4, e5, e7, T⟩ := he6
    refine ⟨.ref p.1, h0, rfl, C, dd, fs, .str "BadCommand", e1, e2, e3, e4, e5, T.r, T.tg, rfl, _, rfl, ?_⟩
    refine ifd (by decide) ?_
    exact ⟨h0, _, v, ⟨C, dd, fs, e1, e2, e3, e4, e5, e7, T⟩, hq _ x6⟩
  split at hf
  · rename_i c
    subst c
    cases hf
    refine ifd (by decide) ?_
    obtain ⟨C, dd, fs, e1, e2, e3, e4, e5, e7, T⟩ := he6
    refine ⟨.ref p.1, h0, rfl, C, dd, fs, .str "BadCount", e1, e2, e3, e4, e5, T.r, T.tg, rfl, _, rfl, ?_⟩
    refine ifn (by decide) ?_
    exact ⟨h0, _, v, ⟨C, dd, fs, e1, e2, e3, e4, e5, e7, T⟩, hq _ x6⟩
  rename_i c1 c2
  refine ifn (by simp [c1, c2]) ?_
  split at hf
  · cases hf
    exact ⟨h0, x, v, he6, hq _ x6⟩
  · cases hf
end
end G

/-! GOut: where an error is handled: pairs stored, the field's def called; try with a pair of classes and a class. -/
namespace G
open PySem PySem.Spec L2 PyProof.Rows L2H HotX
open Evl (Ex)
section
variable {prog : Program} {w : World} {A : Around} {E : Value → Shared → Prop} {s : Shared}
theorem tuple_end_hot {it t x1 : Addr} {i : Nat} {items : Array Value} {Q : Option Value → Shared → Prop} (hot : HotAt A x1 s.heap) (hx1 : x1 ≠ it)
    (hit : IsTupIter s.heap it t i) (ht : IsTup s.heap t items) (hx : items[i]? = none)
    (hQ : ∀ h', Heap.ExtBut it s.heap h' → Q none { s with heap := h' }) : wpAny (model prog w) A (pyNext (.ref it)) Q E s := by
  obtain ⟨o, ho, hc, hd⟩ := id hit
  obtain ⟨ol, hol, _, nl, hdl⟩ := ht
  obtain ⟨hh, o1, vs1, h1, d1, c1⟩ := hot
  unfold pyNext
  refine wpAny_bind (wpAny_attempt (wpAny_callSpecial?_slot (name := Str.ofString "__next__") hit.typeIs slot_tupleiter_next
    (wpAny_call_entry slot_tupleiter_next hit.typeIs entry_tupleiter_next ?_ (args_tupleiter_next _))))
  show wpAny _ _ (field (.ref it) 0 >>= _) _ _ s
  refine wpAny_bind (wpAny_field ho hd (x := .ref t) rfl ?_)
  show wpAny _ _ (if (Value.ref t == Value.none) = true then _ else _) _ _ s
  rw [if_neg (show ¬ ((Value.ref t == Value.none) = true) from Bool.false_ne_true)]
  show wpAny _ _ (field (.ref it) 1 >>= _) _ _ s
  refine wpAny_bind (wpAny_field ho hd (x := .int i 0) rfl ?_)
  show wpAny _ _ (seqItems? (.ref t) >>= _) _ _ s
  refine wpAny_bind (wpAny_seqItems hol hdl ?_)
  simp only [Int.toNat_natCast, hx]
  refine wpAny_bind (wpAny_rule (wpAny_bind (wpAny_setField ho hd (by simp) ?_)))
  show wpAny _ _ (newExc (.type "StopIteration") [] >>= _) _ _ _
  refine wpAny_bind ?_
  simp only [newExc, newTuple]
  refine wpAny_bind (wpAny_newObj_type ?_ (by size_fits))
  refine wpAny_bind (m := firstArgMember _ _) (wpAny_of_eq (a := Value.none) (by first | rfl | (simp only [firstArgMember]; rfl)) ?_)
  refine wpAny_newObj_type ?_ (by size_fits)
  have e1 : ∀ (f : Obj → Obj) (u1 u2 : Obj), (((s.heap.update it f).push u1).push u2).get? x1 = some o1 := fun f u1 u2 =>
    Heap.get?_push_of_some _ (Heap.get?_push_of_some _ ((Heap.get?_update_other _ _ (Ne.symm hx1)).trans h1))
  refine raiseNew_hot ⟨hh, o1, vs1, e1 _ _ _, d1, c1⟩ (Nat.ne_of_lt (Heap.lt_size (Heap.get?_push_of_some _ ((Heap.get?_update_other _ _ (Ne.symm hx1)).trans h1)))) (Heap.get?_push_size _ rfl) rfl (by first | (simp; done) | (simp; omega) | (simp only [Array.size_append]; simp; omega)) ?_
  refine wpAny_bind (wpAny_isInstance (T := "StopIteration") (b := true) ⟨_, Heap.get?_update_self _ (Heap.get?_push_size _ rfl) rfl, rfl⟩ isSubtype_stop ?_)
  refine wpAny_pure (hQ _ fun b u hb e => ?_)
  have k : (s.heap.update it (Obj.mapFields (·.setIfInBounds 0 .none))).get? b = some u := (Heap.get?_update_other _ _ (Ne.symm hb)).trans e
  first
  | (rw [Heap.get?_update_other _ _ (Nat.ne_of_gt (Heap.lt_size (Heap.get?_push_of_some _ k)))]
     exact Heap.get?_push_of_some _ (Heap.get?_push_of_some _ k))
theorem unpack_hot {t x1 : Addr} {items : Array Value} {Q : List Value → Shared → Prop} (hot : HotAt A x1 s.heap) (ht : IsTup s.heap t items)
    (hQ : ∀ h', Heap.ExtBut s.heap.objs.size s.heap h' → Q items.toList { s with heap := h' }) : wpAny (model prog w) A (unpackItems (.ref t) items.size none) Q E s := by
  have hlt : t ≠ s.heap.objs.size := by obtain ⟨o, ho, _⟩ := ht; exact Nat.ne_of_lt (Heap.lt_size ho)
  have hx1 : x1 ≠ s.heap.objs.size := by obtain ⟨_, o, _, ho, _⟩ := hot; exact Nat.ne_of_lt (Heap.lt_size ho)
  unfold unpackItems
  refine wpAny_bind ?_
  unfold notIterableAtAll
  refine wpAny_bind (wpAny_specialOf ht.typeIs slot_tuple_iter.lookup ?_)
  refine wpAny_pure ?_
  simp only [Bool.false_eq_true, if_false]
  refine wpAny_bind (wpAny_holding (iter_tuple ht ?_))
  refine wpAny_bind (wpAny_holding (draw_tuple hlt items.size 0 _ _ ⟨_, Heap.get?_push_size _ rfl, rfl, rfl⟩ (ht.push _) (by omega) fun h₁ hit₁ hs₁ => ?_))
  have hall : List.take items.size (List.drop 0 items.toList) = items.toList := by
    rw [List.drop_zero]; exact List.take_of_length_le (by simp)
  rw [hall, if_neg (by simp)]
  have ht₁ : IsTup h₁ t items := (ht.push _).extBut hs₁.extBut hlt
  have hot1 : HotAt A x1 h₁ := by
    obtain ⟨hh, o, vs, ho, r⟩ := hot
    exact ⟨hh, o, vs, hs₁.extBut x1 o hx1 (Heap.get?_push_of_some _ ho), r⟩
  refine wpAny_bind (wpAny_holding (tuple_end_hot hot1 hx1 hit₁ ht₁ (by simp) fun h₂ he₂ => ?_))
  simp only [Option.isSome_none, Bool.false_eq_true, if_false]
  exact wpAny_pure (hQ h₂ fun b o hb e => he₂ b o hb (hs₁.extBut b o hb (Heap.get?_push_of_some _ e)))
end
section
variable {X : Cx} {pos : Pos}
/-- a, b = x, y where an exception is handled -/
theorem ps_parH {i j : Nat} {x y : Str} {a b : Expr} {ta : TA} {px py pt : Pos} {kt k2 : Nat} {pt2 : Pos} (hc : HotC X) (hN : X.N.Nodup) (hi : X.N[i]? = some x) (hj : X.N[j]? = some y) (hij : i ≠ j)
    (hx : X.env.scope.names.lookup x = some .local) (hy : X.env.scope.names.lookup y = some .local) (ha : PA X [a, b] ta)
    (hw : swappedStores [.Tuple [.Name x px, .Name y py] kt pt] (.Tuple [a, b] k2 pt2) X.env = pure (some [x, y]))
    (hs : swapsWithSole [.Tuple [.Name x px, .Name y py] kt pt] (.Tuple [a, b] k2 pt2) pos.line X.env = pure false := by rfl) :
    PS X (.Assign [.Tuple [.Name x px, .Name y py] kt pt] (.Tuple [a, b] k2 pt2) pos) (tPar i j ta) := by
  refine ⟨fun pins s σ H D I h => ?_⟩
  rw [exec_Assign_arm]
  refine wpAny_bind (wpAny_standAt ?_)
  rw [hs]
  refine wpAny_bind (wpAny_pure ?_)
  rw [if_neg (by decide)]
  refine wpAny_bind (Tuple_ (thn (ha.run _ pins s σ H _ I h) fun us s1 ⟨vs, H1, I1, r1, v, w, e1, q1⟩ => ?_))
  subst e1
  obtain ⟨u1, u2, rfl, rv, rw'⟩ : ∃ u1 u2, us = [u1, u2] ∧ RelV v u1 ∧ RelV w u2 := by
    cases r1 with
    | cons p q =>
      cases q with
      | cons p' q' =>
        cases q'
        exact ⟨_, _, rfl, p, p'⟩
  refine wpAny_newObj_type ?_ (by show 2 ≤ sizeLine; decide)
  have I2 : Inv X pins σ H1 { s1 with heap := s1.heap.push { cls := .type "tuple", data := .seq [u1, u2].toArray } } := I1.kept (t' := s1.toks) fun b o e => Heap.get?_push_of_some _ e
  obtain ⟨x1, hot⟩ := hc.at I2
  rw [hw]
  refine wpAny_bind (wpAny_pure ?_)
  show wpAny (model X.prog X.w) X.A (do rule "assign.swapped-stores"; let items ← unpackItems (.ref s1.heap.objs.size) 2 none; assignInOrder [fun v => bindName X.env y v, fun v => bindName X.env x v] items.reverse; pure Flow.next) _ _ _
  refine wpAny_bind (wpAny_rule (wpAny_bind (unpack_hot (items := #[u1, u2]) hot (IsTup.new s1.heap _) fun h' hx' => ?_)))
  have I3 := I2.kept (h' := h') (t' := s1.toks) fun b o e => hx' b o (Nat.ne_of_lt (Heap.lt_size e)) e
  show wpAny _ _ (assignInOrder [fun v => bindName X.env y v, fun v => bindName X.env x v] [u2, u1] >>= fun _ => pure Flow.next) _ _ _
  refine wpAny_bind (assignInOrder_cons (wpAny_bindName (store_ok I3 hN hj (.inl hy) rw' (fun s2 I4 => ?_) (.inr hy))))
  refine assignInOrder_cons (wpAny_bindName (store_ok I4 hN hi (.inl hx) rv (fun s3 I5 => assignInOrder_nil (wpAny_pure ?_)) (.inr hx)))
  rw [List.set_comm _ _ (Ne.symm hij)] at I5
  exact ⟨_, H1, I5, q1⟩
end
/-! ### the def that tells the field -/
def FldBody (body : List Stmt) : Prop := ∀ {X : Cx} {p : Addr × Obj} {x f : Str} {v : V} {D : L2.Ends} {σ : L2.St} {H : Hp}, p ∈ X.pn → X.N[0]? = some ("_law_e" : Str) → Vis X.env.scope "_law_e" → σ[0]? = some (some (.ref p.1)) → ErrAt X.K p H x f v → fname x = some f → (∀ H', TupX H H' → D.rt v H') → ∃ t, PSs X body t ∧ t D σ H
structure FldOk (P : Program) (w : World) (K : PySem.W.Frag) (mg : Str → Option Value) (base : Heap) (g : Addr) (fd : FuncData) : Prop where
  run : ∀ (A : Around) (outer : List Env) (s : Shared) (H : Hp) (Q : VK) (p : Addr × Obj) (x f : Str) (v : V), RoomH 1 A → Hot1 A p → PinOk outer H s p → Env0 P w K mg base A outer s H → BindsTo s fd ⟨[.ref p.1], []⟩ [("_law_e", .ref p.1)] → ErrAt K p H x f v → fname x = some f → (∀ H', TupX H H' → Q v H') →
    codeAny (model P w) A (.call (.ref g) ⟨[.ref p.1], []⟩) (CR (L2N.CX P w) outer P w H s Q fun _ _ _ => False) s
theorem fld_ok {P : Program} {w : World} {K : PySem.W.Frag} {mg : Str → Option Value} {base : Heap} {g : Addr} {fd : FuncData} {qual : Str} {params : Arguments} {body : List Stmt} {scope : Scope} (FD : FunD K "_law_field" qual params body scope [] [] g fd) (S : FnScope ["_law_e"] ["_law_e"] scope) (hv : scope.names.lookup ("_law_e" : Str) = some .local) (hb : FldBody body) : FldOk P w K mg base g fd := by
  obtain ⟨oc, od, dV, kV, doc, pm, an, cdv, ct, osl, rfl, lk, hcd, _, _⟩ := FD.ex
  refine ⟨fun A outer s H Q p x f v hr hot hpin e0 hbd he hf hq => ?_⟩
  have KX : K.In s.heap := e0.mod.kin.keeps fun b o e => (e0.bs b o e).1
  have lim : s.heap.NoLimit := e0.mod.nolimit.keeps fun b o e => (e0.bs b o e).1
  have hkind : ∀ y ∈ [(("_law_e" : Str), Value.ref p.1)], scope.names.lookup y.1 = some .local ∨ (scope.names.lookup y.1 = some .cell ∧ ((cellsFrom (s.heap.objs.size + 1) scope.names []).lookup y.1).isSome = true) := fun y hy => by
    have e : y = (("_law_e" : Str), Value.ref p.1) := by simpa using hy
    rw [e]
    exact .inl hv
  refine codeAny_call_function hr.depth (KX _ _ lk) rfl S.co S.gen rfl (PySem.W.codeRec_of KX hcd) (hbd _ _ _ _ ?_)
  refine wpAny_newFunctionEnv_cells S.kind hkind fun env he' s1 xx => ?_
  subst he'
  refine ⟨lim.keeps xx.toInCall.keep, codeAny_func ?_⟩
  have I : Inv (cxH (L2N.CX P w) P w K mg base ["_law_e"] qual scope g cdv A outer s H (fun _ _ _ => False) p) [] (L2.start ["_law_e"] [.ref p.1]) H s1 := inv_startH (us := [.ref p.1]) S hpin e0 rfl (.cons rfl .nil) xx
  obtain ⟨t, ht, htt⟩ := hb (X := cxH (L2N.CX P w) P w K mg base ["_law_e"] qual scope g cdv A outer s H (fun _ _ _ => False) p) (p := p) (D := { nx := fun _ H' => Q .non H', rt := Q }) (σ := L2.start ["_law_e"] [.ref p.1]) (H := H) (by show p ∈ [p]; simp) rfl (.inl hv) rfl he hf hq
  refine wpAny_mono (ht.run [] s1 _ H _ I htt) (fun fl s' hs => ?_) fun e s' hs => hs
  have fin : ∀ {σ' : L2.St} {H' : Hp} {v : V} {u : Value}, Inv (cxH (L2N.CX P w) P w K mg base ["_law_e"] qual scope g cdv A outer s H (fun _ _ _ => False) p) [] σ' H' s' → L2.RelV v u → Q v H' → CE outer P w H s Q u s' :=
    fun {σ' H' v u} J rv q => ⟨v, H', J.os, J.bare, J.base, J.hok, rv, q⟩
  cases fl with
  | ret u =>
    obtain ⟨v, σ', H', J, rv, q⟩ := hs
    exact fin J rv q
  | next =>
    obtain ⟨σ', H', J, q⟩ := hs
    exact fin (v := V.non) (u := Value.none) J rfl q
  | brk =>
    obtain ⟨_, _, _, q⟩ := hs
    exact False.elim q
  | cont =>
    obtain ⟨_, _, _, q⟩ := hs
    exact False.elim q
section
variable {X : Cx} {p : Addr × Obj} {i : Nat} {q1 q2 q3 : Pos} {g : Addr} {fd : FuncData}
theorem pe_fld (F : FldOk X.prog X.w X.K X.mg X.base g fd) (hr : RoomH 1 X.A) (hot : Hot1 X.A p) (hp : p ∈ X.pn) (hg : Gl X "_law_field") (hm : X.mg "_law_field" = some (.ref g)) (hk : PySem.W.keepIn X.K (.ref g) = true) (hb : Binds X.K fd ["_law_e"] []) (hN : X.N[i]? = some ("_law_e" : Str)) (hv : Vis X.env.scope "_law_e")
    (he : starEach [.Name "_law_e" q2] X.env = (false, eval (.Name "_law_e" q2) X.env) :: starEach [] X.env := by rfl) :
    PE X (.Call (.Name "_law_field" q1) [.Name "_law_e" q2] [] q3) (fun σ H Q => σ[i]? = some (some (.ref p.1)) ∧ ∃ x f v, ErrAt X.K p H x f v ∧ fname x = some f ∧ ∀ H', TupX H H' → Q v H') := by
  refine ⟨fun pins s σ H Q I ⟨h0, x, f, v, hE, hf, hq⟩ => ?_⟩
  refine wpAny_Call_Name_kw (ld_glob I hg hm ?_ (by decide))
  refine PySem.W.callWith_K (h₀ := X.base) I.ok.mod.kin hk (thn ((pa_cons (pe_var (i := i) hN hv) pa_nil he).run q3 pins s σ H (fun vs H1 => vs = [.ref p.1] ∧ H1 = H) I ⟨_, h0, rfl, rfl⟩) fun us s1 ⟨vs, H1, I1, r1, ev, eH⟩ => ⟨I1.kIn, ?_⟩) he (by rfl)
  subst ev eH
  have eu : us = [Value.ref p.1] := by
    cases r1 with
    | cons r rr =>
      cases rr
      rw [show _ = Value.ref p.1 from r]
  subst eu
  have P1 := I1.pin p (List.mem_append_left _ hp)
  have hpin : PinOk X.stack H1 s1 p := ⟨P1.1, P1.2.1, fun hm => (List.mem_cons.mp (I1.stkSub p.1 hm)).elim P1.2.2.1 P1.2.2.2.1, P1.2.2.2.2⟩
  have bb := hb s1 [Value.ref p.1] I1.kIn rfl
  refine wpAny_call (codeAny_mono (F.run X.A X.stack s1 H1 Q p x f v hr hot hpin I1.env0 bb hE hf hq) fun r s' hq => ?_)
  cases r with
  | error e =>
    obtain ⟨_, _, _, _, _, _, _, _, _, _, _, _, z⟩ := hq
    exact z.elim
  | ok fl =>
    cases fl with
    | ret u => exact I1.after hq
    | next => exact False.elim hq
    | brk => exact False.elim hq
    | cont => exact False.elim hq
end
end G

/-! GOut2: try with a pair of classes and a class, both with a name. -/
namespace G
open PySem PySem.Spec L2 PyProof.Rows L2H HotX
open Evl (Ex)
/-- a class by its global name -/
structure GlC (X : Cx) (x : Str) (c : Value) : Prop where
  g : Gl X x
  d : (x == ("__debug__" : Str)) = false
  m : X.mg x = some c
/-- what the two clauses wish -/
def wO (K : PySem.W.Frag) (c1 c2 c3 : Value) (i : Nat) (t1 t2 : Addr → Value → Option Addr → TS) (D : L2.Ends) : WX := fun cls d σ H =>
  (PySem.W.exmAny K cls [c1, c2] = some true ∧ ∀ a, H a = none → t1 a cls d { nx := fun σ' H' => D.nx (σ'.set i none) H', rt := D.rt, bk := fun σ' H' => D.bk (σ'.set i none) H', ct := fun σ' H' => D.ct (σ'.set i none) H' } (σ.set i (some (.ref a))) H) ∨
    (PySem.W.exmAny K cls [c1, c2] = some false ∧ PySem.W.exmOne K cls c3 = some true ∧ ∀ a, H a = none → t2 a cls d { nx := fun σ' H' => D.nx (σ'.set i none) H', rt := D.rt, bk := fun σ' H' => D.bk (σ'.set i none) H', ct := fun σ' H' => D.ct (σ'.set i none) H' } (σ.set i (some (.ref a))) H)
theorem fly_push {B h : Heap} {l : List Env} {e : Addr} {Z : Obj → Prop} (f : HandSPX.FlyingZ B l e Z h) (u : Obj) : HandSPX.FlyingZ B l e Z (h.push u) := by
  obtain ⟨h1, h2, h3, oe, vs, T, oT, ts, e1, e2, e3, e4, e5, e6, e7, e8, e9⟩ := f
  exact ⟨fun b o q => Heap.get?_push_of_some _ (h1 b o q), h2, h3.of_keeps fun b o q _ => ⟨o, Heap.get?_push_of_some _ q, rfl⟩, oe, vs, T, oT, ts, Heap.get?_push_of_some _ e1, e2, e3, e4, e5, e6, Heap.get?_push_of_some _ e7, e8, e9⟩
section
variable {X : Cx} {x1 x2 x3 n : Str} {c1 c2 c3 : Value} {i k : Nat} {body su1 su2 : List Stmt} {b1 b2 : Stmt} {np1 np2 np3 ntp pos pos1 pos2 : Pos} {tb : WX → TS} {t1 t2 : Addr → Value → Option Addr → TS}
theorem ps_tryO (hs : X.stack = X.env :: X.outer) (hf : X.env.frame = some X.env.locals) (hN : X.N.Nodup) (hi : X.N[i]? = some n) (hln : X.env.kindOf n = some .local) (hc1 : GlC X x1 c1) (hc2 : GlC X x2 c2) (hc3 : GlC X x3 c3)
    (hb : ∀ (W : WX) (pn : List (Addr × Obj)) (xe : Value → Shared → Prop), L2N.Takes (X.tr pn xe) W → PassesOwn (model X.prog X.w) X.A X.env xe → PSs (X.tr pn xe) body (tb W))
    (hsu1 : ∀ (a : Addr) (oe : Obj) (cls : Value) (d : Option Addr) (pn : List (Addr × Obj)), L2N.Zn cls d oe → (∃ vs, oe.data = .fields vs) → PSs (X.suite a ((a, oe) :: pn)) (b1 :: su1) (t1 a cls d))
    (hsu2 : ∀ (a : Addr) (oe : Obj) (cls : Value) (d : Option Addr) (pn : List (Addr × Obj)), L2N.Zn cls d oe → (∃ vs, oe.data = .fields vs) → PSs (X.suite a ((a, oe) :: pn)) (b2 :: su2) (t2 a cls d)) :
    PS X (.Try body [.ExceptHandler (some (.Tuple [.Name x1 np1, .Name x2 np2] k ntp)) (some n) (b1 :: su1) pos1, .ExceptHandler (some (.Name x3 np3)) (some n) (b2 :: su2) pos2] [] [] pos) (fun D σ H => tb (wO X.K c1 c2 c3 i t1 t2 D) D σ H) := by
  refine ⟨fun pins s σ H D I h => ?_⟩
  have ok := I.ok
  have hfr : X.A.frames = some (X.env :: X.outer) := by rw [ok.frames, hs]
  have hloc : Loc X.env.scope n := .inl hln
  refine wpAny_Try_except ?_
  refine wpAny_mono ((hb (wO X.K c1 c2 c3 i t1 t2 D) (X.pn ++ pins) (fun e s₁ => wpAny (model X.prog X.w) X.A (noteFrame e X.env) (fun _ s₂ => wpAny (model X.prog X.w) X.A (setFlight e none) (fun _ s₃ =>
    wpAny (model X.prog X.w) X.A (handleBy e X.env [.ExceptHandler (some (.Tuple [.Name x1 np1, .Name x2 np2] k ntp)) (some n) (b1 :: su1) pos1, .ExceptHandler (some (.Name x3 np3)) (some n) (b2 :: su2) pos2]) (SP X pins D) X.xe s₃) X.xe s₂) X.xe s₁) (fun u s' xx => ?_) PassesOwn.looking).run [] s σ H D (I.toTry _) h) (fun f s1 hsp => ?_) (fun e s1 he => he)
  · obtain ⟨a, B, sI, pins', σ', H', cls, d, rfl, J', nb, up, sky, na, os, ag, wish⟩ := xx
    have J : Inv X pins σ' H' sI := J'.ofTry ok
    have sky' : Sky B (X.env :: X.outer) a (L2N.Zn cls d) X.env.locals s'.heap := by rw [← hs]; exact sky
    show wpAny (model X.prog X.w) X.A (noteFrame (.ref a) X.env) _ _ _
    refine L2N.Sky.land L2N.Zn.steady hfr hf sky' fun h3 fl3 up3 => ?_
    have J3 : Inv X pins σ' H' { s' with heap := h3 } := J.landed nb fl3.1 (up.trans up3) os ag
    obtain ⟨oe3, vs3, he3, hz3, hd3⟩ := fl3.there
    have nfr : a ∉ frs (X.env :: X.outer) := fun hm => by
      obtain ⟨_, o', e', hnf⟩ := fl3.2.2.1.mem hm
      rw [he3] at e'
      cases e'
      exact hnf _ hd3
    have nL : a ≠ X.env.locals := fun z => nfr (List.mem_filterMap.mpr ⟨X.env, List.mem_cons_self, by rw [hf, z]⟩)
    have nF : a ∉ X.fs := fun hm => by
      obtain ⟨e, he, q⟩ := List.mem_filterMap.mp hm
      exact nfr (List.mem_filterMap.mpr ⟨e, List.mem_cons_of_mem _ he, q⟩)
    have S3 := J3.suite he3 hd3 na nL nF
    obtain ⟨bb, hbb⟩ : ∃ bb, PySem.W.exmAny X.K cls [c1, c2] = some bb := by
      rcases wish with ⟨e, _⟩ | ⟨e, _⟩
      · exact ⟨_, e⟩
      · exact ⟨_, e⟩
    refine wpAny_handleBy_cons (codeAny_handlers_test ?_) (by intro q; cases q)
    -- the pair of classes
    refine Tuple_ (Calls.spliced_cons (ld_glob (X := X.suite a ((a, oe3) :: (X.pn ++ pins))) S3 hc1.g hc1.m (Calls.spliced_cons (ld_glob (X := X.suite a ((a, oe3) :: (X.pn ++ pins))) S3 hc2.g hc2.m (Calls.spliced_nil (wpAny_newObj_type ?_ (by show 2 ≤ sizeLine; decide))) hc2.d)) hc1.d))
    have fl4 := fly_push fl3 { cls := .type "tuple", data := .seq [c1, c2].toArray }
    have up4 : h3.UpToSlots (h3.push { cls := .type "tuple", data := .seq [c1, c2].toArray }) := Heap.UpToSlots.of_keeps fun b o e => Heap.get?_push_of_some _ e
    have J4 : Inv X pins σ' H' { s' with heap := h3.push { cls := .type "tuple", data := .seq [c1, c2].toArray } } := J.landed nb fl4.1 ((up.trans up3).trans up4) os ag
    have he4 : (h3.push { cls := .type "tuple", data := .seq [c1, c2].toArray }).get? a = some oe3 := Heap.get?_push_of_some _ he3
    have LT : PySem.W.Looks (model X.prog X.w) (h3.push { cls := .type "tuple", data := .seq [c1, c2].toArray }) (typeOf (.ref a)) cls := fun A Q E s k q => wpAny_typeOf_ref (k _ _ he4) (by rw [hz3.1]; exact q)
    have LM := PySem.W.exm_tup2 (M := model X.prog X.w) (J4.kIn) LT (Heap.get?_push_size h3 rfl) hbb
    refine LM.here ?_
    rcases wish with ⟨e, hts⟩ | ⟨e, e2, hts⟩
    · have eb : bb = true := Option.some.inj (hbb.symm.trans e)
      subst eb
      refine codeAny_handlers_suite_as ?_
      refine HandSPX.lands_againZ fl4 fun h5 fl5 up5 => ?_
      have J5 : Inv X pins σ' H' { s' with heap := h5 } := J.landed nb fl5.1 (((up.trans up3).trans up4).trans up5) os ag
      obtain ⟨oe5, vs5, he5, hz5, hd5⟩ := fl5.there
      have S5 := J5.suite he5 hd5 na nL nF
      refine store_ok (X := X.suite a ((a, oe5) :: (X.pn ++ pins))) (v := .ref a) S5 hN hi hloc rfl (fun s6 S6 => ?_) (.inr hln)
      refine wpAny_mono ((hsu1 a oe5 cls d (X.pn ++ pins) hz5 ⟨_, hd5⟩).run [] s6 _ H' _ S6 (hts a na)) (fun f s7 hsp => ?_) (fun _ _ z => False.elim z)
      have end_ : ∀ {σ7 : L2.St} {H7 : Hp} {Q : Shared → Prop}, Inv (X.suite a ((a, oe5) :: (X.pn ++ pins))) [] σ7 H7 s7 → (∀ s8, Inv X pins (σ7.set i none) H7 s8 → Q s8) →
          wpAny (model X.prog X.w) X.A (do bindName X.env n .none; unbindBehindTheSuite X.env n pos1) (fun _ s8 => Q s8) X.xe s7 := fun {σ7 H7 Q} S7 hq => gone_ok (S7.unsuite ok) hN hi hln hq
      cases f with
      | next =>
        obtain ⟨σ7, H7, S7, q7⟩ := hsp
        exact end_ S7 fun s8 J8 => ⟨_, _, J8, q7⟩
      | brk =>
        obtain ⟨σ7, H7, S7, q7⟩ := hsp
        exact end_ S7 fun s8 J8 => ⟨_, _, J8, q7⟩
      | cont =>
        obtain ⟨σ7, H7, S7, q7⟩ := hsp
        exact end_ S7 fun s8 J8 => ⟨_, _, J8, q7⟩
      | ret u =>
        obtain ⟨v7, σ7, H7, S7, r7, q7⟩ := hsp
        exact end_ S7 fun s8 J8 => ⟨_, _, _, J8, r7, q7⟩
    · have eb : bb = false := Option.some.inj (hbb.symm.trans e)
      subst eb
      show wpAny _ X.A (handleBy (.ref a) X.env [.ExceptHandler (some (.Name x3 np3)) (some n) (b2 :: su2) pos2]) _ _ _
      have S4 := J4.suite he4 hd3 na nL nF
      refine wpAny_handleBy_cons (codeAny_handlers_test ?_) (by intro q; cases q)
      have LM2 := PySem.W.exm_one (M := model X.prog X.w) (J4.kIn) LT e2
      refine ld_glob (X := X.suite a ((a, oe3) :: (X.pn ++ pins))) S4 hc3.g hc3.m (LM2.here ?_) hc3.d
      refine codeAny_handlers_suite_as ?_
      refine HandSPX.lands_againZ fl4 fun h5 fl5 up5 => ?_
      have J5 : Inv X pins σ' H' { s' with heap := h5 } := J.landed nb fl5.1 (((up.trans up3).trans up4).trans up5) os ag
      obtain ⟨oe5, vs5, he5, hz5, hd5⟩ := fl5.there
      have S5 := J5.suite he5 hd5 na nL nF
      refine store_ok (X := X.suite a ((a, oe5) :: (X.pn ++ pins))) (v := .ref a) S5 hN hi hloc rfl (fun s6 S6 => ?_) (.inr hln)
      refine wpAny_mono ((hsu2 a oe5 cls d (X.pn ++ pins) hz5 ⟨_, hd5⟩).run [] s6 _ H' _ S6 (hts a na)) (fun f s7 hsp => ?_) (fun _ _ z => False.elim z)
      have end_ : ∀ {σ7 : L2.St} {H7 : Hp} {Q : Shared → Prop}, Inv (X.suite a ((a, oe5) :: (X.pn ++ pins))) [] σ7 H7 s7 → (∀ s8, Inv X pins (σ7.set i none) H7 s8 → Q s8) →
          wpAny (model X.prog X.w) X.A (do bindName X.env n .none; unbindBehindTheSuite X.env n pos2) (fun _ s8 => Q s8) X.xe s7 := fun {σ7 H7 Q} S7 hq => gone_ok (S7.unsuite ok) hN hi hln hq
      cases f with
      | next =>
        obtain ⟨σ7, H7, S7, q7⟩ := hsp
        exact end_ S7 fun s8 J8 => ⟨_, _, J8, q7⟩
      | brk =>
        obtain ⟨σ7, H7, S7, q7⟩ := hsp
        exact end_ S7 fun s8 J8 => ⟨_, _, J8, q7⟩
      | cont =>
        obtain ⟨σ7, H7, S7, q7⟩ := hsp
        exact end_ S7 fun s8 J8 => ⟨_, _, J8, q7⟩
      | ret u =>
        obtain ⟨v7, σ7, H7, S7, r7, q7⟩ := hsp
        exact end_ S7 fun s8 J8 => ⟨_, _, _, J8, r7, q7⟩
  · cases f with
    | next =>
      obtain ⟨σ', H', J', q⟩ := hsp
      exact wpAny_execs_nil ⟨σ', H', J'.ofTry ok, q⟩
    | brk =>
      obtain ⟨σ', H', J', q⟩ := hsp
      exact ⟨σ', H', J'.ofTry ok, q⟩
    | cont =>
      obtain ⟨σ', H', J', q⟩ := hsp
      exact ⟨σ', H', J'.ofTry ok, q⟩
    | ret u =>
      obtain ⟨v, σ', H', J', r, q⟩ := hsp
      exact ⟨v, σ', H', J'.ofTry ok, r, q⟩
end
end G

/-! GOut3: the defs that tell a lambda's answer or error. -/
namespace G
open PySem PySem.Spec L2 PyProof.Rows L2H HotX
open Evl (Ex)
theorem PE.imp {X : Cx} {e : Expr} {t t' : TE} (h : PE X e t) (k : ∀ σ H Q, t' σ H Q → t σ H Q) : PE X e t' := ⟨fun pins s σ H Q I q => h.run pins s σ H Q I (k σ H Q q)⟩
/-- the caught error, by its class and dict -/
def ErrC (K : PySem.W.Frag) (cls : Value) (d : Option Addr) (H : Hp) (x f : Str) (v : V) : Prop := ∃ C dd fs, cls = .ref C ∧ d = some dd ∧ H dd = some (.xd fs) ∧ fs.lookup ("tag" : Str) = some (.str x) ∧ fs.lookup f = some v ∧ XcR K C f
theorem ErrC.at {K : PySem.W.Frag} {cls : Value} {d : Option Addr} {H : Hp} {x f : Str} {v : V} {a : Addr} {oe : Obj} (h : ErrC K cls d H x f v) (hz : L2N.Zn cls d oe) (hd : ∃ vs, oe.data = .fields vs) : ErrAt K (a, oe) H x f v := by
  obtain ⟨C, dd, fs, h1, h2, h3⟩ := h
  exact ⟨C, dd, fs, hz.1.trans h1, hz.2.1.trans h2, hd, h3⟩
/-- the result (k: without the answer) -/
def resK (k : Bool) (Q : VK) (a : V) (t : Str) (v : V) (H : Hp) : Prop := ∀ p, H p = none → if k = true then ∀ p2, upd H p (.tup [a, .str t, v]) p2 = none → Q (.ref p2) (upd (upd H p (.tup [a, .str t, v])) p2 (.tup [.str t, v])) else Q (.ref p) (upd H p (.tup [a, .str t, v]))
def outQ (k : Bool) (Q : VK) : VK := fun v H => resK k Q v "" .non H
def outE (k : Bool) (K : PySem.W.Frag) (c1 c2 c3 : Value) (Q : VK) : XK := fun cls d H => ∃ x f v, ErrC K cls d H x f v ∧
  ((PySem.W.exmAny K cls [c1, c2] = some true ∧ fname x = some f ∧ ∀ H', TupX H H' → resK k Q .non x v H') ∨ (PySem.W.exmAny K cls [c1, c2] = some false ∧ PySem.W.exmOne K cls c3 = some true ∧ resK k Q .non x .non H))

theorem roomHm {k : Nat} {A : Around} (r : Room k A) (h : Option Value) : RoomH k (A.mark h) := ⟨r.dp, r.un⟩
structure OutOk (P : Program) (w : World) (K : PySem.W.Frag) (mg : Str → Option Value) (base : Heap) (k : Nat) (kf : Bool) (c1 c2 c3 : Value) (x : Str) : Prop where
  ex : ∃ g fd, mg x = some (.ref g) ∧ PySem.W.keepIn K (.ref g) = true ∧ L2.Binds K fd ["_law_ask"] [] ∧
    ∀ (A : Around) (stk : List Env) (s : Shared) (H : Hp) (f : Addr) (tl : XK → Hp → VK → Prop) (Q : VK) (j : Nat), Room (j + k) A → Env0 P w K mg base A stk s H → BindsTo s fd ⟨[.ref f], []⟩ [("_law_ask", .ref f)] → LamRun P w K mg base j (frs stk) f s H tl →
      (∀ E H Q, tl E H Q → ∃ t cl, LamAt H t cl f) → (∀ H1, TupX H H1 → ∀ (E : XK) (Q' : VK), (∀ cls d H', outE kf K c1 c2 c3 Q cls d H' → E cls d H') → (∀ v H', outQ kf Q v H' → Q' v H') → tl E H1 Q') →
      codeAny (model P w) A (.call (.ref g) ⟨[.ref f], []⟩) (CR (L2N.CX P w) stk P w H s Q fun _ _ _ => False) s
section
variable {X : Cx} {W : WX} {f a : Addr} {x : Str} {tl : XK → Hp → VK → Prop} {i k : Nat} {q1 q2 q3 : Pos} {c1 c2 c3 : Value} {kf : Bool}
theorem pe_ask (R : LamRun X.prog X.w X.K X.mg X.base k (frs X.outer) f X.s_0 X.H_0 tl) (hex : X.ex = []) (hr : Room (k + 1) X.A) (tk : L2N.Takes X W) (ht : ∀ E H Q, tl E H Q → ∃ t cl, LamAt H t cl f) (hN : X.N[i]? = some x) (hv : Vis X.env.scope x)
    (hd : (x == ("__debug__" : Str)) = false := by decide) (hcd : (x == ("__classdict__" : Str)) = false := by decide) : PE X (.Call (.Name x q1) [] [] q2) (fun σ H Q => σ[i]? = some (some (.ref f)) ∧ tl (WE W σ) H Q) := by
  refine ⟨fun pins s σ H Q I ⟨h0, h1⟩ => ?_⟩
  refine wpAny_Call_Name_kw (thn ((pe_var (pos := q1) (i := i) hN hv hd hcd).run pins s σ H (fun v H1 => v = .ref f ∧ H1 = H) I ⟨.ref f, h0, rfl, rfl⟩) fun u s1 ⟨v, H1, I1, r1, ev, eH⟩ => ?_)
  subst ev eH
  obtain rfl : u = Value.ref f := r1
  obtain ⟨t, cl, c', dV, hf, _⟩ := ht _ _ _ h1
  obtain ⟨⟨pm, ctv, of1⟩, _, _⟩ := I1.hok f _ hf
  refine PySem.W.callWith_F0 ⟨_, _, _, _, of1⟩ ?_
  have un : Un (frs X.outer) [] X.H_0 H1 X.s_0.heap s1.heap := by
    have z := I1.base
    rw [hex] at z
    exact z
  refine wpAny_call (codeAny_mono (R X.A X.stack s1 H1 Q (WE W σ) hr I1.env0 un h1) fun r s' hq => ?_)
  cases r with
  | error e => exact L2N.passAt tk σ pins H1 s1 e s' I1 hq
  | ok fl =>
    cases fl with
    | ret u => exact I1.after hq
    | next => exact False.elim hq
    | brk => exact False.elim hq
    | cont => exact False.elim hq
/-- where such a def is called with a name's value, a lambda that was handed over -/
theorem pe_outv (O : OutOk X.prog X.w X.K X.mg X.base k kf c1 c2 c3 x) {j : Nat} {y : Str} (R : LamRun X.prog X.w X.K X.mg X.base j (frs X.outer) f X.s_0 X.H_0 tl) (hex : X.ex = []) (hstk : X.stack = X.env :: X.outer) (hfr : X.env.frame = some X.env.locals) (hL : X.s_0.heap.get? X.env.locals = none) (hr : Room (j + k) X.A) (ht : ∀ E H Q, tl E H Q → ∃ t cl, LamAt H t cl f)
    (hg : Gl X x) (hN : X.N[i]? = some y) (hv : Vis X.env.scope y) (he : starEach [.Name y q2] X.env = (false, eval (.Name y q2) X.env) :: starEach [] X.env := by rfl) (hdx : (x == ("__debug__" : Str)) = false := by decide)
    (hd : (y == ("__debug__" : Str)) = false := by decide) (hcd : (y == ("__classdict__" : Str)) = false := by decide) :
    PE X (.Call (.Name x q1) [.Name y q2] [] q3) (fun σ H Q => σ[i]? = some (some (.ref f)) ∧ ∀ H1, TupX H H1 → ∀ (E : XK) (Q' : VK), (∀ cls d H', outE kf X.K c1 c2 c3 Q cls d H' → E cls d H') → (∀ v H', outQ kf Q v H' → Q' v H') → tl E H1 Q') := by
  obtain ⟨g, fd, hm, hk, hb, run⟩ := O.ex
  refine ⟨fun pins s σ H Q I ⟨h0, h1⟩ => ?_⟩
  refine wpAny_Call_Name_kw (ld_glob I hg hm ?_ hdx)
  refine PySem.W.callWith_K (h₀ := X.base) I.ok.mod.kin hk (thn ((pa_cons (pe_var (i := i) hN hv hd hcd) pa_nil he).run q3 pins s σ H (fun vs H1 => vs = [.ref f] ∧ H1 = H) I ⟨_, h0, rfl, rfl⟩) fun us s1 ⟨vs, H1, I1, r1, ev, eH⟩ => ⟨I1.kIn, ?_⟩) he (by rfl)
  subst ev eH
  have eu : us = [Value.ref f] := by
    cases r1 with
    | cons r rr =>
      cases rr
      rw [show _ = Value.ref f from r]
  subst eu
  have un : Un (frs X.outer) [] X.H_0 H1 X.s_0.heap s1.heap := by
    have z := I1.base
    rw [hex] at z
    exact z
  have R1 : LamRun X.prog X.w X.K X.mg X.base j (frs X.stack) f s1 H1 tl := by
    have z := R.deep un hL
    have e : frs X.stack = X.env.locals :: frs X.outer := by
      rw [hstk]
      unfold frs
      rw [List.filterMap_cons, hfr]
    rw [e]
    exact z
  have bb := hb s1 [Value.ref f] I1.kIn rfl
  refine wpAny_call (codeAny_mono (run X.A X.stack s1 H1 f tl Q j hr I1.env0 bb R1 ht h1) fun r s' hq => ?_)
  cases r with
  | error e =>
    obtain ⟨_, _, _, _, _, _, _, _, _, _, _, _, z⟩ := hq
    exact z.elim
  | ok fl =>
    cases fl with
    | ret u => exact I1.after hq
    | next => exact False.elim hq
    | brk => exact False.elim hq
    | cont => exact False.elim hq
end
abbrev outN : List Str := ["_law_ask", "_law_answer", "_law_tag", "_law_field_here", "_law_e"]
section
variable {P : Program} {w : World} {K : PySem.W.Frag} {mg : Str → Option Value} {base : Heap} {fF : Addr} {fdF : FuncData} {qual : Str} {params : Arguments} {body : List Stmt} {scope : Scope} {g : Addr} {fd : FuncData} {c1 c2 c3 : Value} {k : Nat}
theorem out_ok {p1 p2 p3 p4 p5 p6 p7 p8 p9 p10 p11 p12 p13 p14 p15 p16 p17 p18 p19 p20 p21 p22 p23 p24 p25 p26 p27 p28 p29 p30 p31 p32 p33 p34 p35 p36 p37 p38 p39 : Pos} (F : FldOk P w K mg base fF fdF) (mF : mg "_law_field" = some (.ref fF)) (kF : PySem.W.keepIn K (.ref fF) = true) (bF : L2.Binds K fdF ["_law_e"] []) (FD : FunD K "_law_outcome" qual params body scope [] [] g fd) (hm : mg "_law_outcome" = some (.ref g)) (S : FnScope outN ["_law_ask"] scope)
    (g1 : scope.names.lookup ("ForestError" : Str) = some .globalImplicit) (g2 : scope.names.lookup ("Missing" : Str) = some .globalImplicit) (g3 : scope.names.lookup ("EmptyHistory" : Str) = some .globalImplicit) (g4 : scope.names.lookup ("_law_field" : Str) = some .globalImplicit)
    (l0 : scope.names.lookup ("_law_ask" : Str) = some .local) (l1 : scope.names.lookup ("_law_answer" : Str) = some .local) (l2 : scope.names.lookup ("_law_tag" : Str) = some .local) (l3 : scope.names.lookup ("_law_field_here" : Str) = some .local) (l4 : scope.names.lookup ("_law_e" : Str) = some .local)
    (m1 : mg "ForestError" = some c1) (m2 : mg "Missing" = some c2) (m3 : mg "EmptyHistory" = some c3) (hbd : L2.Binds K fd ["_law_ask"] [])
    (hw0 : ∀ L f cd, swappedStores [.Tuple [.Name "_law_answer" p1, .Name "_law_tag" p2, .Name "_law_field_here" p3] 0 p4] (.Tuple [.Constant .none 0 p5, .Constant (.str "") 0 p6, .Constant .none 0 p7] 0 p8) (envOfC qual scope L f cd) = pure none)
    (hw1 : ∀ L f cd, swappedStores [.Tuple [.Name "_law_tag" p17, .Name "_law_field_here" p18] 0 p19] (.Tuple [.Attribute (.Name "_law_e" p20) "tag" p21, .Call (.Name "_law_field" p22) [.Name "_law_e" p23] [] p24] 0 p25) (envOfC qual scope L f cd) = pure (some (["_law_tag", "_law_field_here"] : List Str)))
    (hb : body = ([ (.Assign ([ (.Tuple ([ (.Name "_law_answer" p1), (.Name "_law_tag" p2), (.Name "_law_field_here" p3)]) (0) (p4))]) ((.Tuple ([ (.Constant .none 0 p5), (.Constant (.str "") 0 p6), (.Constant .none 0 p7)]) (0) (p8))) (p9)), (.Try ([ (.Assign ([(.Name "_law_answer" p10)]) ((.Call (.Name "_law_ask" p11) [] [] p12)) (p13))]) ([ (.ExceptHandler ((some (.Tuple ([(.Name "ForestError" p14), (.Name "Missing" p15)]) (0) (p16)))) ((some "_law_e")) ([ (.Assign ([ (.Tuple ([(.Name "_law_tag" p17), (.Name "_law_field_here" p18)]) (0) (p19))]) ((.Tuple ([ (.Attribute (.Name "_law_e" p20) "tag" p21), (.Call ((.Name "_law_field" p22)) ([(.Name "_law_e" p23)]) ([]) (p24))]) (0) (p25))) (p26))]) (p27)), (.ExceptHandler ((some (.Name "EmptyHistory" p28))) ((some "_law_e")) ([ (.Assign ([(.Name "_law_tag" p29)]) ((.Attribute (.Name "_law_e" p30) "tag" p31)) (p32))]) (p33))]) ([]) ([]) (p34)), (.Return ((some (.Tuple ([ (.Name "_law_answer" p35), (.Name "_law_tag" p36), (.Name "_law_field_here" p37)]) (0) (p38)))) (p39))])) : OutOk P w K mg base 3 false c1 c2 c3 "_law_outcome" := by
  subst hb
  obtain ⟨oc, od, dV, kV, doc, pm, an, cdv, ct, osl, rfl, lk, hcd, _, _⟩ := FD.ex
  refine ⟨g, _, hm, FD.kp, hbd, fun A stk s H f tl Q j hr e0 hbt R ht h => ?_⟩
  refine LamX.run_ofS (k := j + 2) (N := outN) (ps := ["_law_ask"]) (us := [.ref f]) (vs := [.ref f]) (E := fun _ _ _ => False) lk hcd S hr e0 hbt (.cons rfl .nil) rfl fun hr' => ?_
  have nd := S.nd
  have room1 : Room (j + 1) (A.deeper (envOfC qual scope s.heap.objs.size g cdv)) := hr'.mono (by omega)
  have R' : LamRun P w K mg base j (frs (cxOf (L2N.CX P w) P w K mg base outN qual scope g cdv A stk s H (fun _ _ _ => False)).outer) f (cxOf (L2N.CX P w) P w K mg base outN qual scope g cdv A stk s H (fun _ _ _ => False)).s_0 (cxOf (L2N.CX P w) P w K mg base outN qual scope g cdv A stk s H (fun _ _ _ => False)).H_0 tl := R
  refine ⟨_, pss_cons (ps_asg (pe_tup (pa_cons pe_non (pa_cons pe_str (pa_cons pe_non pa_nil)))) (pg_tup rfl (pgs_cons (pg_name (i := 1) nd rfl (.inl l1)) (pgs_cons (pg_name (i := 2) nd rfl (.inl l2)) (pgs_cons (pg_name (i := 3) nd rfl (.inl l3)) pgs_nil)))) rfl (hw0 _ _ _))
    (pss_cons (ps_tryO (i := 4) (c1 := c1) (c2 := c2) (c3 := c3) (tb := fun W => tAsg (fun σ H Q => σ[0]? = some (some (.ref f)) ∧ tl (WE W σ) H Q) (gName 1))
        (t1 := fun a cls d => tPar 2 3 (tCons (fun σ H Q => tVar 4 σ H fun x H1 => x = .ref a ∧ ∃ C dd fs v, cls = .ref C ∧ d = some dd ∧ H1 dd = some (.xd fs) ∧ fs.lookup ("tag" : Str) = some v ∧ XfC K C ∧ PySem.W.findIn K (.ref C) "tag" = some none ∧ Q v H1)
          (tCons (fun σ H Q => σ[4]? = some (some (.ref a)) ∧ ∃ x f v, ErrC K cls d H x f v ∧ fname x = some f ∧ ∀ H', TupX H H' → Q v H') tNil)))
        (t2 := fun a cls d => tAsg (fun σ H Q => tVar 4 σ H fun x H1 => x = .ref a ∧ ∃ C dd fs v, cls = .ref C ∧ d = some dd ∧ H1 dd = some (.xd fs) ∧ fs.lookup ("tag" : Str) = some v ∧ XfC K C ∧ PySem.W.findIn K (.ref C) "tag" = some none ∧ Q v H1) (gName 2))
        rfl rfl nd rfl l4 ⟨g1, by decide, m1⟩ ⟨g2, by decide, m2⟩ ⟨g3, by decide, m3⟩
        (fun W pn xe tk _ => pss_one (ps_set nd rfl (.inl l1) (pe_ask (i := 0) R' rfl room1 tk ht rfl (.inl l0))))
        (fun a oe cls d pn hz hd => ?s1) (fun a oe cls d pn hz hd => ?s2))
      (pss_one (ps_ret (pe_tup (pa_cons (pe_var (i := 1) rfl (.inl l1)) (pa_cons (pe_var (i := 2) rfl (.inl l2)) (pa_cons (pe_var (i := 3) rfl (.inl l3)) pa_nil))))))), ?_⟩
  case s1 =>
    have hp : ∀ pn : List (Addr × Obj), (a, oe) ∈ ((cxOf (L2N.CX P w) P w K mg base outN qual scope g cdv A stk s H (fun _ _ _ => False)).suite a ((a, oe) :: pn)).pn := fun pn => List.mem_cons_self
    have hot : Hot1 ((cxOf (L2N.CX P w) P w K mg base outN qual scope g cdv A stk s H (fun _ _ _ => False)).suite a ((a, oe) :: pn)).A (a, oe) := by
      obtain ⟨vs, hd⟩ := hd
      exact ⟨rfl, vs, hd, hz.2.2 vs hd⟩
    refine pss_one (ps_parH ⟨(a, oe), hot, hp _⟩ nd rfl rfl (by decide) l2 l3 (pa_cons (PE.imp (pe_xp (p := (a, oe)) (hp _) (pe_var (i := 4) rfl (.inl l4))) ?_) (pa_cons (PE.imp (pe_fld (i := 4) F (roomHm (hr'.mono (by omega)) _) hot (hp _) g4 mF kF bF rfl (.inl l4)) ?_) pa_nil)) (hw1 _ _ _))
    · rintro σ H Q ⟨v, e, ex, C, dd, fs, u, e1, e2, e3, e4, e5, e6, q⟩
      exact ⟨v, e, ex, C, dd, fs, u, hz.1.trans e1, hz.2.1.trans e2, hd, e3, e4, e5, e6, q⟩
    · rintro σ H Q ⟨e, x, f, v, he, hf, q⟩
      exact ⟨e, x, f, v, he.at hz hd, hf, q⟩
  case s2 =>
    have hp : ∀ pn : List (Addr × Obj), (a, oe) ∈ ((cxOf (L2N.CX P w) P w K mg base outN qual scope g cdv A stk s H (fun _ _ _ => False)).suite a ((a, oe) :: pn)).pn := fun pn => List.mem_cons_self
    refine pss_one (ps_set nd rfl (.inl l2) (PE.imp (pe_xp (p := (a, oe)) (hp _) (pe_var (i := 4) rfl (.inl l4))) ?_))
    rintro σ H Q ⟨v, e, ex, C, dd, fs, u, e1, e2, e3, e4, e5, e6, q⟩
    exact ⟨v, e, ex, C, dd, fs, u, hz.1.trans e1, hz.2.1.trans e2, hd, e3, e4, e5, e6, q⟩
  · refine ⟨by show 3 ≤ sizeLine; decide, fun p0 hp0 => ⟨p0, _, rfl, SqT.of upd_same, rfl, .non, _, rfl, .str "", _, rfl, .non, _, rfl, rfl, ?_⟩⟩
    refine ⟨rfl, h _ (TupX.one hp0) _ _ (fun cls d H' he => ?_) (fun v H' hq => ?_)⟩
    · obtain ⟨x, fn, v, ⟨C, dd, fs, e1, e2, e3, e4, e5, e6⟩, hh⟩ := he
      rcases hh with ⟨b1, hf, hq⟩ | ⟨b1, b2, hq⟩
      · refine .inl ⟨b1, fun a ha => ⟨.ref a, rfl, rfl, C, dd, fs, .str x, e1, e2, e3, e4, e6.r, e6.tg, rfl, x, fn, v, ⟨C, dd, fs, e1, e2, e3, e4, e5, e6⟩, hf, fun H2 x2 => ⟨.str x, v, rfl, .non, rfl, .str x, rfl, v, rfl, by show 3 ≤ sizeLine; decide, fun pp hpp => ?_⟩⟩⟩
        exact hq H2 x2 pp hpp
      · refine .inr ⟨b1, b2, fun a ha => ⟨.ref a, rfl, rfl, C, dd, fs, .str x, e1, e2, e3, e4, e6.r, e6.tg, .non, rfl, .str x, rfl, .non, rfl, by show 3 ≤ sizeLine; decide, fun pp hpp => ?_⟩⟩
        exact hq pp hpp
    · exact ⟨v, rfl, .str "", rfl, .non, rfl, by show 3 ≤ sizeLine; decide, fun pp hpp => hq pp hpp⟩
theorem err_ok {p1 p2 p3 p4 p5 p6 p7 : Pos} (O : OutOk P w K mg base k false c1 c2 c3 "_law_outcome") (FD : FunD K "_law_error" qual params body scope [] [] g fd) (hm : mg "_law_error" = some (.ref g)) (S : FnScope ["_law_ask"] ["_law_ask"] scope)
    (g1 : scope.names.lookup ("_law_outcome" : Str) = some .globalImplicit) (l0 : scope.names.lookup ("_law_ask" : Str) = some .local) (hbd : L2.Binds K fd ["_law_ask"] []) (hb : body = ([ (.Return ((some (.Subscript ((.Call ((.Name "_law_outcome" p1)) ([(.Name "_law_ask" p2)]) ([]) (p3))) ((.Slice (some (.Constant (.int 1) 0 p4)) none none (p5))) (p6)))) (p7))])) : OutOk P w K mg base (k + 1) true c1 c2 c3 "_law_error" := by
  subst hb
  obtain ⟨oc, od, dV, kV, doc, pm, an, cdv, ct, osl, rfl, lk, hcd, _, _⟩ := FD.ex
  refine ⟨g, _, hm, FD.kp, hbd, fun A stk s H f tl Q j hr e0 hbt R ht h => ?_⟩
  refine LamX.run_ofS (k := j + k) (N := ["_law_ask"]) (ps := ["_law_ask"]) (us := [.ref f]) (vs := [.ref f]) (E := fun _ _ _ => False) lk hcd S hr e0 hbt (.cons rfl .nil) rfl fun hr' => ?_
  have R' : LamRun P w K mg base j (frs (cxOf (L2N.CX P w) P w K mg base ["_law_ask"] qual scope g cdv A stk s H (fun _ _ _ => False)).outer) f (cxOf (L2N.CX P w) P w K mg base ["_law_ask"] qual scope g cdv A stk s H (fun _ _ _ => False)).s_0 (cxOf (L2N.CX P w) P w K mg base ["_law_ask"] qual scope g cdv A stk s H (fun _ _ _ => False)).H_0 tl := R
  refine ⟨_, pss_one (ps_ret (pe_slice sl_tup (pe_outv (i := 0) O R' rfl rfl rfl (Heap.get?_none_of_le (Nat.le_refl _)) hr' ht g1 rfl (.inl l0)) (po_some pe_int) po_none)), ?_⟩
  refine ⟨rfl, fun H1 x1 E Q' hE hQ => h H1 x1 E Q' (fun cls d H' he => hE cls d H' ?_) (fun v H' hq => hQ v H' ?_)⟩
  · obtain ⟨x, fn, v, ec, hh⟩ := he
    refine ⟨x, fn, v, ec, ?_⟩
    rcases hh with ⟨b1, hf, hq⟩ | ⟨b1, b2, hq⟩
    · refine .inl ⟨b1, hf, fun H2 x2 pp hpp => ?_⟩
      have z := hq H2 x2 pp hpp
      rw [if_pos rfl] at z
      rw [if_neg Bool.false_ne_true]
      exact ⟨1, rfl, pp, [.non, .str x, v], rfl, SqT.of upd_same, by simp [HT.sIx], fun p2 hp2 => z p2 hp2⟩
    · refine .inr ⟨b1, b2, fun pp hpp => ?_⟩
      have z := hq pp hpp
      rw [if_pos rfl] at z
      rw [if_neg Bool.false_ne_true]
      exact ⟨1, rfl, pp, [.non, .str x, .non], rfl, SqT.of upd_same, by simp [HT.sIx], fun p2 hp2 => z p2 hp2⟩
  · intro pp hpp
    have z := hq pp hpp
    rw [if_pos rfl] at z
    rw [if_neg Bool.false_ne_true]
    exact ⟨1, rfl, pp, [v, .str "", .non], rfl, SqT.of upd_same, by simp [HT.sIx], fun p2 hp2 => z p2 hp2⟩
end
end G

/-! GOut4: what calling a lambda comes to, in the core. -/
namespace G
open PySem PySem.Spec L2 PyProof.Rows L2H HotX
open Evl (Ex)
/-- what the written part says of the error classes -/
structure Errs (K : PySem.W.Frag) (mg : Str → Option Value) (c1 c2 c3 : Value) : Prop where
  ok : ∀ t f C, fname t = some f → mg t = some (.ref C) → PySem.W.exmAny K (.ref C) [c1, c2] = some true ∧ XcR K C f
  ok0 : ∀ C, mg "EmptyHistory" = some (.ref C) → PySem.W.exmAny K (.ref C) [c1, c2] = some false ∧ PySem.W.exmOne K (.ref C) c3 = some true ∧ XcR K C "tag"
section
variable {K : PySem.W.Frag} {wd : Wd} {F H H' : Hp} {cs : Cs}
theorem Rl.more (R : Rl K wd F cs H) (x : TupX H H') : Rl K wd F cs H' := by
  refine ⟨R.b.trans x.ex, R.f.trans x.ex, R.bf, R.inj, fun n o e => ?_, fun n a e => ?_, R.top, R.rf, R.fe, fun p hp => ?_, R.bt⟩
  · obtain ⟨a, u, e1, e2, e3, e4, e5⟩ := R.cell n o e
    exact ⟨a, u, e1, e2, e3, x.ex _ _ e4, e5⟩
  · obtain ⟨o, h1, h2⟩ := R.ran n a e
    exact ⟨o, x.ex _ _ h1, h2⟩
  · obtain ⟨ps, h1, h2⟩ := R.tab p hp
    exact ⟨ps, x.ex _ _ h1, h2⟩
theorem resK_of {kf : Bool} {P : KD} {Q : VK} {a d : D} {t : Str} {va vd : V} (R : Rl K wd F cs H) (ra : Rp K wd a va) (rd : Rp K wd d vd) (q : QOk K wd F P Q) (h : P (outD kf a t d) cs) : resK kf Q va t vd H := by
  intro p hp
  obtain ⟨wd1, l1, R1, r1⟩ := R.tup hp (ds := [a, .str t, d]) (vs := [va, .str t, vd]) ⟨_, _, rfl, ra, _, _, rfl, rfl, _, _, rfl, rd, rfl⟩
  cases kf with
  | false =>
    rw [if_neg Bool.false_ne_true]
    exact q wd1 _ cs _ _ l1 R1 r1 h
  | true =>
    rw [if_pos rfl]
    intro p2 hp2
    obtain ⟨wd2, l2, R2, r2⟩ := R1.tup hp2 (ds := [.str t, d]) (vs := [.str t, vd]) ⟨_, _, rfl, rfl, _, _, rfl, rd.mono l1, rfl⟩
    exact q wd2 _ cs _ _ (l1.trans l2) R2 r2 h
end
/-- a body's reading by its core term -/
def tCore (K : PySem.W.Frag) (mg : Str → Option Value) (c : E) (EE : XK) : TE := fun σ H Q => ∃ wd F τ cs P PX, Rl K wd F cs H ∧ RS K wd τ σ ∧ wpE c τ cs P PX ∧ QOk K wd F P Q ∧
  ∀ wd' x cs' cls dd H', wd.le wd' → Rl K wd' F cs' H' → RpX K mg wd' x cls dd → PX x cs' → EE cls dd H'
theorem tCore_pe {X : Cx} {e : Expr} {c : E} {EE : XK} (h : JE X (wxOf EE) e c) : PE X e (tCore X.K X.mg c EE) := by
  obtain ⟨te, p, r⟩ := h
  refine PE.imp p fun σ H Q ⟨wd, F, τ, cs, P, PX, R, rs, hw, q, x⟩ => ?_
  exact r wd F τ cs σ H P PX Q R rs hw q x
theorem lam_ct {X : Cx} {A : Around} {outer : List Env} {s : Shared} {H : Hp} {EE : XK} {scope : Scope} {f c' : Addr} {j : Nat} (hN : X.N.Nodup) (hr : Room j (A.deeper (LamX.lamEnv X scope s.heap.objs.size f c'))) : Ct (lamX X A outer s H EE scope f c') (wxOf EE) j :=
  ⟨rfl, hN, passes_of rfl, L2N.takes_of rfl rfl rfl rfl, hr⟩
theorem isEr_rp {K : PySem.W.Frag} {mg : Str → Option Value} {c1 c2 c3 : Value} (E : Errs K mg c1 c2 c3) {wd : Wd} {F H : Hp} {cs : Cs} {x : Er} {d : D} {cls : Value} {dd : Option Addr} {kf : Bool} {P : KD} {Q : VK} (R : Rl K wd F cs H) (rx : RpX K mg wd x cls dd) (hx : IsEr x d) (q : QOk K wd F P Q) (h : P (outD kf .non x.tag d) cs) : outE kf K c1 c2 c3 Q cls dd H := by
  obtain ⟨C, a, vs, hm, ec, ed, hB, hn, hv⟩ := rx
  have hH := R.b _ _ hB
  rcases hx with ⟨f, hf, ex⟩ | ⟨ex, e⟩
  · obtain ⟨T1, T2⟩ := E.ok x.tag f C hf hm
    obtain ⟨v1, v2, rd, hvs⟩ : ∃ v1 v2, (Rp K wd d v1 ∧ v2 = V.str x.tag) ∧ vs = [(f, v1), ("tag", v2)] := by
      have e1 : x.fs = [(f, d), ("tag", D.str x.tag)] := by rw [ex]; rfl
      rw [e1] at hn hv
      match vs, hn, hv with
      | [(n1, w1), (n2, w2)], hn, hv =>
        obtain ⟨a1, r1, q1, q2, a2, r2, q3, q4, q5⟩ := hv
        simp only [List.map_cons, List.map_nil, List.cons.injEq, and_true] at hn q1
        obtain ⟨h1, h2⟩ := hn
        obtain ⟨z1, z2⟩ := q1
        subst h1 h2 z1
        rw [q3] at z2
        simp only [List.cons.injEq] at z2
        obtain ⟨z2, _⟩ := z2
        subst z2
        exact ⟨_, _, ⟨q2, q4⟩, rfl⟩
      | [], hn, _ => simp at hn
      | [_], hn, _ => simp at hn
      | _ :: _ :: _ :: _, hn, _ => simp at hn
    obtain ⟨rd, e2⟩ := rd
    subst hvs e2
    have ft : (("tag" : Str) == f) = false := by
      unfold fname at hf
      repeat' split at hf
      all_goals first | (cases hf; decide) | cases hf
    refine ⟨x.tag, f, v1, ⟨C, a, _, ec, ed, hH, ?_, ?_, T2⟩, .inl ⟨by rw [ec]; exact T1, hf, fun H' x' => resK_of (a := .non) (d := d) (R.more x') rfl rd q h⟩⟩
    · simp [List.lookup, ft]
    · simp [List.lookup]
  · subst e
    have et : x.tag = "EmptyHistory" := by rw [ex]; rfl
    obtain ⟨T1, T2, T3⟩ := E.ok0 C (by rw [← et]; exact hm)
    have hvs : vs = [(("tag" : Str), V.str x.tag)] := by
      have e1 : x.fs = [(("tag" : Str), D.str x.tag)] := by rw [ex]; rfl
      rw [e1] at hn hv
      match vs, hn, hv with
      | [(n1, w1)], hn, hv =>
        obtain ⟨a1, r1, q1, q2, q3⟩ := hv
        simp only [List.map_cons, List.map_nil, List.cons.injEq, and_true] at hn q1
        obtain ⟨z1, z2⟩ := q1
        subst hn z1
        rw [show w1 = V.str x.tag from q2]
      | [], hn, _ => simp at hn
      | _ :: _ :: _, hn, _ => simp at hn
    subst hvs
    refine ⟨x.tag, "tag", .str x.tag, ⟨C, a, _, ec, ed, hH, ?_, ?_, T3⟩, .inr ⟨by rw [ec]; exact T1, by rw [ec]; exact T2, resK_of (a := .non) (d := .non) R rfl rfl q h⟩⟩
    · simp [List.lookup]
    · simp [List.lookup]
section
variable {X : Cx} {W : WX} {t : LamT} {pos lpos p : Pos} {kf : Bool} {c1 c2 c3 : Value} {x : Str} {k j : Nat} {c : E}
theorem LamAt.mono {H H' : Hp} {cl : List (Str × Addr)} {f : Addr} (h : LamAt H t cl f) (e : Ex H H') : LamAt H' t cl f := by
  obtain ⟨c, dV, h1, h2, h3⟩ := h
  exact ⟨c, dV, e _ _ h1, e _ _ h2, h3.imp id fun ⟨n, p, e1, e2⟩ => ⟨n, p, e1, e _ _ e2⟩⟩
def outPost (X : Cx) (t : LamT) (c : E) (kf : Bool) (c1 c2 c3 : Value) (σ : L2.St) (Q : VK) : List V → Hp → Prop := fun vs H1 => ∃ f, vs = [.ref f] ∧ ∀ H2, TupX H1 H2 → ∀ (EE : XK) (Q' : VK), (∀ cls d H', outE kf X.K c1 c2 c3 Q cls d H' → EE cls d H') → (∀ v H', outQ kf Q v H' → Q' v H') → LamAt H2 t (cloFrom X.env.cells t.scope.names []) f ∧ tCore X.K X.mg c EE σ H2 Q'
/-- told(lambda: body) -/
theorem j_out (O : OutOk X.prog X.w X.K X.mg X.base k kf c1 c2 c3 x) (ER : Errs X.K X.mg c1 c2 c3) (LC : LamC X t.q) (LN : LamN X.N X.env.scope t.scope) (LB : LamBind t) (hN : X.N.Nodup) (hr : Room (j + k) X.A) (tk : L2N.Takes X W) (hg : Gl X x)
    (hdef : (t.dfl = [] ∧ defaultsOf t.params X.env = ([], [])) ∨ ∃ i j pc, t.dfl = [i] ∧ defaultsOf t.params X.env = ([eval (.Constant (.int i) j pc) X.env], []))
    (hbody : ∀ (A : Around) (outer : List Env) (s : Shared) (H : Hp) (EE : XK) (f c' : Addr), Ct (lamX X A outer s H EE t.scope f c') (wxOf EE) j → JE (lamX X A outer s H EE t.scope f c') (wxOf EE) t.body c)
    (hdx : (x == ("__debug__" : Str)) = false := by decide) (he : starEach [.Lambda t.params t.body t.scope lpos] X.env = (false, eval (.Lambda t.params t.body t.scope lpos) X.env) :: starEach [] X.env := by rfl) :
    JE X W (.Call (.Name x p) [.Lambda t.params t.body t.scope lpos] [] pos) (.out kf c) := by
  obtain ⟨g, fd, hm, hk, hb, run⟩ := O.ex
  obtain ⟨tl, pl, rl⟩ := j_lam (W := W) (pos := lpos) 0 LC (fun ok => LN.has ok) hdef
  refine ⟨fun σ H Q => tCons tl tNil σ H (outPost X t c kf c1 c2 c3 σ Q), ⟨fun pins s σ H Q I h => ?_⟩, fun wd F τ cs σ H P PX Q R rs hw q xx => ?_⟩
  · refine wpAny_Call_Name_kw (ld_glob I hg hm ?_ hdx)
    refine PySem.W.callWith_K (h₀ := X.base) I.ok.mod.kin hk (thn ((pa_cons pl pa_nil he).run pos pins s σ H _ I h) fun us s1 ⟨vs, H1, I1, r1, f, ev, h1⟩ => ⟨I1.kIn, ?_⟩) he (by rfl)
    subst ev
    have eu : us = [Value.ref f] := by
      cases r1 with
      | cons r rr =>
        cases rr
        rw [show _ = Value.ref f from r]
    subst eu
    have R1 := lam_run (k := j) (te := fun E => tCore X.K X.mg c E) I1 LN LB LC.qn (fun A outer s H EE f c' hr hd => tCore_pe (hbody A outer s H EE f c' (lam_ct hN hr))) f
    have bb := hb s1 [Value.ref f] I1.kIn rfl
    refine wpAny_call (codeAny_mono (run X.A X.stack s1 H1 f (fun E H1 Q => LamAt H1 t (cloFrom X.env.cells t.scope.names []) f ∧ tCore X.K X.mg c E σ H1 Q) Q j hr I1.env0 bb R1 (fun E H Q h => ⟨t, _, h.1⟩) h1) fun r s' hq => ?_)
    cases r with
    | error e =>
      obtain ⟨_, _, _, _, _, _, _, _, _, _, _, _, z⟩ := hq
      exact z.elim
    | ok fl =>
      cases fl with
      | ret u => exact I1.after hq
      | next => exact False.elim hq
      | brk => exact False.elim hq
      | cont => exact False.elim hq
  · have hw : wpE c τ cs (fun d c1 => P (outD kf d "" .non) c1) (fun x c1 => ∃ d, IsEr x d ∧ P (outD kf .non x.tag d) c1) := hw
    refine rl wd F τ cs σ H (fun d c1 => d = .clo 0 t X.env.cells ∧ c1 = cs) PX _ R rs ⟨rfl, rfl⟩ (fun wd1 d c1 v H1 l1 R1 rv hd => ?_) xx
    obtain ⟨hd, hc⟩ := hd
    subst hd hc
    obtain ⟨f, c', dV, ev, b1, b2, b3⟩ := rv
    refine ⟨f, by rw [ev], fun H2 x2 EE Q' hE hQ => ?_⟩
    have R2 := R1.more x2
    refine ⟨⟨c', dV, R2.b _ _ b1, R2.b _ _ b2, b3.imp id fun ⟨n, p, e1, e2⟩ => ⟨n, p, e1, R2.b _ _ e2⟩⟩, ?_⟩
    have qq := q.mono l1
    refine ⟨wd1, F, τ, _, _, _, R2, rs.mono l1, hw, fun wd2 d c2 v H3 l2 R3 rd hp => hQ _ _ (resK_of (d := .non) R3 rd rfl (qq.mono l2) hp), fun wd2 x c2 cls dd H3 l2 R3 rx hx => hE _ _ _ ?_⟩
    obtain ⟨d, hi, hp⟩ := hx
    exact isEr_rp ER R3 rx hi (qq.mono l2) hp
end
end G

/-! GStar: a, *b, c = a list. -/
namespace G
open PySem PySem.Spec L2
open Evl (Ex)
section
variable {P : Program} {w : World} {A : Around} {E : Value → Shared → Prop} {s : Shared}
end
section
variable {X : Cx} {W : WX} {pos p p' : Pos} {e tg : Expr} {ce : E} {tgs elts : List Expr} {pt : Pat} {own : List Nat} {n i k : Nat}
end
end G

namespace G
def c_l_shuffled_1 (p__law_take : G.Spec) : S := (.asg (.nm 2) (.app sListM .nil))
def c_l_shuffled_2 (p__law_take : G.Spec) : S := (.exp (.meth chkL sInsert (.v 2) (.cons (.app p__law_take (.cons (.v 0) (.cons (.app sAdd (.cons (.app sLen (.cons (.v 2) .nil)) (.cons (.c (.int 1)) .nil))) .nil))) (.cons (.v 3) .nil))))
def c_l_shuffled_3 (p__law_take : G.Spec) : S := (.fr (.nm 3) iSeq (.cons (.v 1) .nil) (c_l_shuffled_2 p__law_take))
def c_l_shuffled_4 (p__law_take : G.Spec) : S := (.ret (.v 2))
def c_l_shuffled (p__law_take : G.Spec) : S := (.seq (c_l_shuffled_1 p__law_take) (.seq (c_l_shuffled_3 p__law_take) (.seq (.frz 2) (c_l_shuffled_4 p__law_take))))
def c_l_size_1 (p__law_of : G.Spec) (p__law_take : G.Spec) : S := (.ret (.app p__law_of (.cons (.v 0) (.cons (.app sList (.cons (.app p__law_take (.cons (.v 0) (.cons (.app sAdd (.cons (.v 1) (.cons (.c (.int 1)) .nil))) .nil))) (.cons (.app sMin2 (.cons (.v 1) (.cons (.app p__law_take (.cons (.v 0) (.cons (.c (.int 8)) .nil))) .nil))) (.cons (.app sMin2 (.cons (.v 1) (.cons (.c (.int 3)) .nil))) .nil)))) .nil))))
def c_l_size (p__law_of : G.Spec) (p__law_take : G.Spec) : S := (c_l_size_1 p__law_of p__law_take)
def c_l_path_1 : S := (.asg (.nm 2) (.app sListM (.cons (.v 1) .nil)))
def c_l_path_2 : S := (.exp (.meth chkL sAppend (.v 2) (.cons (.app sIx (.cons (.v 0) (.cons (.app sIx (.cons (.v 2) (.cons (.app sNeg (.cons (.c (.int 1)) .nil)) .nil))) .nil))) .nil)))
def c_l_path_3 : S := (.ite (.app sNe (.cons (.app sIx (.cons (.v 0) (.cons (.app sIx (.cons (.v 2) (.cons (.app sNeg (.cons (.c (.int 1)) .nil)) .nil))) .nil))) (.cons (.app sIx (.cons (.v 2) (.cons (.app sNeg (.cons (.c (.int 1)) .nil)) .nil))) .nil))) (c_l_path_2) .skip)
def c_l_path_4 : S := (.fr (.nm 3) iRng1 (.cons (.app sLen (.cons (.v 0) .nil)) .nil) (c_l_path_3))
def c_l_path_5 : S := (.ret (.v 2))
def c_l_path : S := (.seq (c_l_path_1) (.seq (c_l_path_4) (.seq (.frz 2) (c_l_path_5))))
def c_l_renamed_1 (p__law_shuffled : G.Spec) : S := (.asg (.nm 2) (.app p__law_shuffled (.cons (.v 0) (.cons (.app sListRg (.cons (.c (.int 0)) (.cons (.app sLen (.cons (.v 1) .nil)) .nil))) .nil))))
def c_l_renamed_2 (p__law_shuffled : G.Spec) : S := (.asg (.nm 3) (.app sRepM (.cons (.app sList (.cons (.c (.int 0)) .nil)) (.cons (.app sLen (.cons (.v 1) .nil)) .nil))))
def c_l_renamed_3 (p__law_shuffled : G.Spec) : S := (.exp (.app sSetIx (.cons (.app sIx (.cons (.v 2) (.cons (.app sIx (.cons (.v 1) (.cons (.v 4) .nil))) .nil))) (.cons (.v 3) (.cons (.app sIx (.cons (.v 2) (.cons (.v 4) .nil))) .nil)))))
def c_l_renamed_4 (p__law_shuffled : G.Spec) : S := (.fr (.nm 4) iRng1 (.cons (.app sLen (.cons (.v 1) .nil)) .nil) (c_l_renamed_3 p__law_shuffled))
def c_l_renamed_5 (p__law_shuffled : G.Spec) : S := (.ret (.app sTupOf (.cons (.v 3) .nil)))
def c_l_renamed (p__law_shuffled : G.Spec) : S := (.seq (c_l_renamed_1 p__law_shuffled) (.seq (c_l_renamed_2 p__law_shuffled) (.seq (c_l_renamed_4 p__law_shuffled) (c_l_renamed_5 p__law_shuffled))))
def c_l_forest_1 (p__law_renamed : G.Spec) (p__law_take : G.Spec) : S := (.asg (.tup (.cons (.nm 3) (.cons (.nm 4) .nil))) (.app sTup (.cons (.app p__law_take (.cons (.v 0) (.cons (.c (.int 6)) .nil))) (.cons (.app sListM .nil) .nil))))
def c_l_forest_2 (p__law_renamed : G.Spec) (p__law_take : G.Spec) : S := (.asg (.nm 6) (.app sList (.cons (.app sSub (.cons (.v 5) (.cons (.c (.int 1)) .nil))) (.cons (.c (.int 0)) (.cons (.app sMax2 (.cons (.c (.int 0)) (.cons (.app sSub (.cons (.v 5) (.cons (.c (.int 2)) .nil))) .nil))) (.cons (.app sMax2 (.cons (.c (.int 0)) (.cons (.app sSub (.cons (.app sSub (.cons (.v 5) (.cons (.c (.int 1)) .nil))) (.cons (.app sMod (.cons (.v 5) (.cons (.c (.int 2)) .nil))) .nil))) .nil))) .nil))))))
def c_l_forest_3 (p__law_renamed : G.Spec) (p__law_take : G.Spec) : S := (.asg (.nm 7) (.ite (.app sLt (.cons (.v 3) (.cons (.c (.int 4)) .nil))) (.app sIx (.cons (.v 6) (.cons (.v 3) .nil))) (.app p__law_take (.cons (.v 0) (.cons (.app sMax2 (.cons (.c (.int 1)) (.cons (.v 5) .nil))) .nil)))))
def c_l_forest_4 (p__law_renamed : G.Spec) (p__law_take : G.Spec) : S := (.asg (.nm 7) (.app sMax2 (.cons (.c (.int 0)) (.cons (.app sSub (.cons (.app sSub (.cons (.v 5) (.cons (.c (.int 1)) .nil))) (.cons (.app p__law_take (.cons (.v 0) (.cons (.c (.int 3)) .nil))) .nil))) .nil))))
def c_l_forest_5 (p__law_renamed : G.Spec) (p__law_take : G.Spec) : S := (.ite (.app sEq (.cons (.v 3) (.cons (.c (.int 5)) .nil))) (c_l_forest_4 p__law_renamed p__law_take) .skip)
def c_l_forest_6 (p__law_renamed : G.Spec) (p__law_take : G.Spec) : S := (.asg (.nm 7) (.v 5))
def c_l_forest_7 (p__law_renamed : G.Spec) (p__law_take : G.Spec) : S := (.ite (.or (.app sEq (.cons (.v 5) (.cons (.c (.int 0)) .nil))) (.and (.app sLt (.cons (.v 5) (.cons (.v 2) .nil))) (.app sEq (.cons (.app p__law_take (.cons (.v 0) (.cons (.c (.int 2)) .nil))) (.cons (.c (.int 0)) .nil))))) (c_l_forest_6 p__law_renamed p__law_take) .skip)
def c_l_forest_8 (p__law_renamed : G.Spec) (p__law_take : G.Spec) : S := (.exp (.meth chkL sAppend (.v 4) (.cons (.v 7) .nil)))
def c_l_forest_9 (p__law_renamed : G.Spec) (p__law_take : G.Spec) : S := (.fr (.nm 5) iRng1 (.cons (.v 1) .nil) (.seq (c_l_forest_2 p__law_renamed p__law_take) (.seq (c_l_forest_3 p__law_renamed p__law_take) (.seq (c_l_forest_5 p__law_renamed p__law_take) (.seq (c_l_forest_7 p__law_renamed p__law_take) (c_l_forest_8 p__law_renamed p__law_take))))))
def c_l_forest_10 (p__law_renamed : G.Spec) (p__law_take : G.Spec) : S := (.ret (.app p__law_renamed (.cons (.v 0) (.cons (.v 4) .nil))))
def c_l_forest (p__law_renamed : G.Spec) (p__law_take : G.Spec) : S := (.seq (c_l_forest_1 p__law_renamed p__law_take) (.seq (c_l_forest_9 p__law_renamed p__law_take) (c_l_forest_10 p__law_renamed p__law_take)))
def c_l_some_forest_1 (p__law_forest : G.Spec) (p__law_size : G.Spec) (p__law_take : G.Spec) : S := (.ret (.app p__law_forest (.cons (.v 0) (.cons (.app p__law_size (.cons (.v 0) (.cons (.v 1) .nil))) (.cons (.app sAdd (.cons (.c (.int 1)) (.cons (.app p__law_take (.cons (.v 0) (.cons (.c (.int 5)) .nil))) .nil))) .nil)))))
def c_l_some_forest (p__law_forest : G.Spec) (p__law_size : G.Spec) (p__law_take : G.Spec) : S := (c_l_some_forest_1 p__law_forest p__law_size p__law_take)
end G

/-! GFor: forests as lists of parents; paths; finds. Plain mathematics. -/
namespace G
def par (p : List Nat) (i : Nat) : Nat := p.getD i i
/-- following parents comes to an end -/
def FoOk (p : List Nat) : Prop := ∃ r : Nat → Nat, ∀ i, i < p.length → par p i < p.length ∧ r i < p.length ∧ (par p i = i ∨ r (par p i) < r i)
def pth (p : List Nat) : Nat → Nat → List Nat
  | 0, i => [i]
  | f + 1, i => if par p i = i then [i] else i :: pth p f (par p i)
def path (p : List Nat) (i : Nat) : List Nat := pth p p.length i
def root (p : List Nat) (i : Nat) : Nat := (path p i).getLastD i
section
variable {p : List Nat}
theorem par_lt (h : FoOk p) {i : Nat} (hi : i < p.length) : par p i < p.length := by
  obtain ⟨r, hr⟩ := h
  exact (hr i hi).1
end
/-! ### a find -/
def cmp (p xs : List Nat) (t : Nat) : List Nat := (List.range p.length).map fun i => if i ∈ xs then t else par p i
def fnd (p : List Nat) (i : Nat) : List Nat := cmp p (path p i) (root p i)
def cst (p : List Nat) (i : Nat) : Nat := (path p i).length - 1
/-- M is closed upwards and has no root -/
structure MOk (p : List Nat) (M : Nat → Bool) : Prop where
  nr : ∀ i, i < p.length → M i = true → par p i ≠ i
  up : ∀ i, i < p.length → M i = true → M (par p i) = true ∨ par p (par p i) = par p i
section
variable {p : List Nat} {M : Nat → Bool}
/-- one more find -/
def more (p : List Nat) (M : Nat → Bool) (i : Nat) : Nat → Bool := fun j => M j || (decide (j ∈ path p i) && decide (j ≠ root p i))
/-! ### costs -/
def deep (p : List Nat) (j : Nat) : Bool := decide (par p j ≠ j) && decide (par p (par p j) ≠ par p j)
end
/-! ### many finds -/
end G

/-! GLess: cells left over may be forgotten. -/
namespace G
open PySem PySem.Spec L2
def Le (c c' : Cs) : Prop := ∀ n o, c n = some o → c' n = some o
theorem Le.refl (c : Cs) : Le c c := fun _ _ h => h
theorem Le.trans {a b c : Cs} (h : Le a b) (k : Le b c) : Le a c := fun n o e => k n o (h n o e)
theorem Le.put {c c' : Cs} {n : Nat} {o : Ob} (h : Le c c') (hn : c n = none) : Le c (put c' n o) := fun m u e => by
  have : m ≠ n := fun z => by rw [z, hn] at e; cases e
  rw [put_ne this]
  exact h m u e
theorem Le.none {c c' : Cs} {n : Nat} (h : Le c c') (hn : c' n = none) : c n = none := by
  cases e : c n with
  | none => rfl
  | some o => rw [h n o e] at hn; cases hn
def okFnL (n : Nat) (body : S) (sp : Spec) : Prop := ∀ ds cs Q X, sp ds cs Q X → wpS body (start n ds) cs { nx := fun _ c' => ∃ c, Le c c' ∧ Q .non c, rt := fun d c' => ∃ c, Le c c' ∧ Q d c, ex := fun x _ c' => ∃ c, Le c c' ∧ X x c }
section
variable {P : Program} {w : World} {K : PySem.W.Frag} {mg : Str → Option Value} {base : Heap}
theorem fnOk_ofL {x qual : Str} {params : Arguments} {body : List Stmt} {scope : Scope} {dvs : List V} {kws : List (Str × V)} {f : Addr} {fd : FuncData} {N ps : List Str} {k : Nat} {sp : Spec} {core : S} (FD : FunD K x qual params body scope dvs kws f fd) (S : FnScope N ps scope)
    (len : ∀ ds cs Q PX, sp ds cs Q PX → ds.length = ps.length)
    (hb : ∀ (cdv : Value) (A : Around) (outer : List Env) (s : Shared) (H : Hp) (E : XK), Ct (cxOf (L2N.CX P w) P w K mg base N qual scope f cdv A outer s H E) (wxOf E) k → JSs (cxOf (L2N.CX P w) P w K mg base N qual scope f cdv A outer s H E) (wxOf E) body core)
    (ok : okFnL N.length core sp) : FnOk P w K mg base (L2N.CX P w) (k + 1) f fd ps (lift K mg sp) := by
  refine FD.ok S (fun vs H Q E h => ?_) fun cdv A outer s H vs Q E hr h => ?_
  · obtain ⟨wd, F, cs, ds, PD, PX, R, r, s, q⟩ := h
    rw [r.length]
    exact len _ _ _ _ s
  · obtain ⟨wd, F, cs, ds, PD, PX, R, r, hs, q, x⟩ := h
    obtain ⟨t, p1, r1⟩ := hb cdv A outer s H E ⟨rfl, S.nd, passes_of rfl, L2N.takes_of rfl rfl rfl rfl, hr⟩
    refine ⟨t, p1, ?_⟩
    exact r1 wd F _ cs _ H _ _ R (rs_start r) (ok ds cs PD PX hs) ⟨fun wd' τ cs' σ H' l R' rs' ⟨c, le, h'⟩ => q wd' .non c .non H' l (R'.less le) rfl h', fun _ _ _ _ _ _ _ _ z => z.elim, fun _ _ _ _ _ _ _ _ z => z.elim, fun wd' d cs' v H' l R' rv ⟨c, le, h'⟩ => q wd' d c v H' l (R'.less le) rv h', fun wd' y τ cs' σ cls dd H' l R' rs' rx ⟨c, le, z⟩ => x wd' y c cls dd H' l (R'.less le) rx z⟩
end
theorem okFn.less {n : Nat} {body : S} {sp : Spec} (h : okFn n body sp) (mono : ∀ ds cs Q X Q' X', sp ds cs Q X → (∀ d c, Q d c → Q' d c) → (∀ x c, X x c → X' x c) → sp ds cs Q' X') : okFnL n body sp :=
  fun ds cs Q X hs => h ds cs (fun d c' => ∃ c, Le c c' ∧ Q d c) (fun x c' => ∃ c, Le c c' ∧ X x c) (mono ds cs Q X _ _ hs (fun d c z => ⟨c, Le.refl c, z⟩) fun x c z => ⟨c, Le.refl c, z⟩)
end G

/-! GTop: from facts of the top to error classes, lambdas' tables, defs' promises. -/
namespace G
open PySem PySem.Spec L2 PyProof.Rows
theorem takesN {X : Cx} : L2N.Takes X (fun _ _ _ _ => False) := fun _ _ x => by
  obtain ⟨_, _, _, _, _, _, _, _, _, _, _, _, _, _, _, _, z⟩ := x
  exact z.elim
section
variable {P : Program} {w : World} {K : PySem.W.Frag} {mg : Str → Option Value} {base : Heap} {x qual : Str} {params : Arguments} {body : List Stmt} {scope : Scope} {f : Addr} {fd : FuncData} {ps ks : List Str} {k n : Nat} {sp : Spec} {ix : List Nat}
theorem fn_mkB (FD : FunD K x qual params body scope [] [] f fd) (hm : mg x = some (.ref f)) (ok : FnOk P w K mg base (L2N.CX P w) k f fd ps (lift K mg sp)) (hb : L2.Binds K fd ps []) : Fn P w K mg base x k ps.length sp :=
  ⟨f, fd, ps, rfl, hm, ok, FD.kp, hb⟩
end
/-! ### the error classes -/
theorem clsRB_ok {K : PySem.W.Frag} {x f : Str} (h : clsRB K x f = true) : XcR K (He.ga K x) f := by
  unfold clsRB at h
  simp only [Bool.and_eq_true, decide_eq_true_eq] at h
  exact ⟨xfB_ok h.1, h.2.1, h.2.2⟩
section
variable {P : Program} {w : World} {K : PySem.W.Frag} {mg : Str → Option Value} {base : Heap} {x qual f pn : Str} {params : Arguments} {scope : Scope} {fd : FuncData} {p1 p2 p3 p4 p5 p6 p7 p8 p9 : Pos} {j k1 k2 : Nat} {body : List Stmt}
theorem xc_of (h : clsCB K x f = true) (hm : mg x = some (.ref (He.ga K x))) (FD : FunD K "__init__" qual params body scope [] [] (He.fAd K (x, some "__init__")) fd) (S : FnScope ["self", pn] ["self", pn] scope)
    (hv : scope.names.lookup ("self" : Str) = some .local) (hv2 : scope.names.lookup pn = some .local) (hb : body = [.Assign [.Tuple [.Attribute (.Name "self" p1) "tag" p2, .Attribute (.Name "self" p3) f p4] k1 p5] (.Tuple [.Constant (.str x) j p6, .Name pn p7] k2 p8) p9])
    (bd : L2.Binds K fd ["self", pn] []) (hd : (pn == ("__debug__" : Str)) = false := by decide) (hcd : (pn == ("__classdict__" : Str)) = false := by decide) : Xc P w K mg base x f := by
  unfold clsCB at h
  simp only [Bool.and_eq_true, decide_eq_true_eq] at h
  obtain ⟨h1, h2, h3, h4, h5⟩ := h
  exact ⟨_, _, fd, _, hm, ⟨xcB_ok h1, h2, h3⟩, h4, h5, ini_ok FD S hv hv2 hb hd hcd, bd⟩
end
theorem errTags_ok {t f : Str} (h : fname t = some f) : (t, f) ∈ errTags := by
  unfold fname at h
  have go : ∀ (ts : List Str) (g : Str), t ∈ ts → (ts.all fun u => decide ((u, g) ∈ errTags)) = true → (t, g) ∈ errTags := fun ts g hm ha => of_decide_eq_true (List.all_eq_true.mp ha t hm)
  split at h
  · cases h; exact go _ _ (by assumption) (by decide)
  split at h
  · cases h; exact go _ _ (by assumption) (by decide)
  split at h
  · cases h; exact go _ _ (by assumption) (by decide)
  split at h
  · cases h; exact go _ _ (by assumption) (by decide)
  split at h
  · cases h; exact go _ _ (by assumption) (by decide)
  split at h
  · rename_i e; cases h; rw [e]; decide
  split at h
  · rename_i e; cases h; rw [e]; decide
  split at h
  · rename_i e; cases h; rw [e]; decide
  cases h
section
variable {K : PySem.W.Frag} {h : Heap} {mg : Str → Option Value}
theorem glob_ok (X : K.In h) (G : h.Ns mainGlobals mg) {x : Str} (c : gloB K x = true) : mg x = some (.ref (He.ga K x)) := PySem.W.mg_of X G (of_decide_eq_true c)
theorem errs_ok (X : K.In h) (G : h.Ns mainGlobals mg) (c : errsB K = true) : Errs K mg (.ref (He.ga K "ForestError")) (.ref (He.ga K "Missing")) (.ref (He.ga K "EmptyHistory")) := by
  unfold errsB at c
  simp only [Bool.and_eq_true, List.all_eq_true, Bool.or_eq_true, decide_eq_true_eq] at c
  obtain ⟨c1, c2, c3, c4, c5, c6, c7⟩ := c
  refine ⟨fun t f C hf hm => ?_, fun C hm => ?_⟩
  · rcases c1 _ (errTags_ok hf) with z | ⟨z1, z2, z3⟩
    · rw [show mg t = none from PySem.W.mg_none_of X G z] at hm
      cases hm
    · rw [show mg t = _ from glob_ok X G z1] at hm
      cases hm
      exact ⟨z3, clsRB_ok z2⟩
  · rw [show mg "EmptyHistory" = _ from glob_ok X G c4] at hm
    cases hm
    exact ⟨c6, c7, clsRB_ok c5⟩
theorem errsB_glo (X : K.In h) (G : h.Ns mainGlobals mg) (c : errsB K = true) : mg "ForestError" = some (.ref (He.ga K "ForestError")) ∧ mg "Missing" = some (.ref (He.ga K "Missing")) ∧ mg "EmptyHistory" = some (.ref (He.ga K "EmptyHistory")) := by
  unfold errsB at c
  simp only [Bool.and_eq_true] at c
  exact ⟨glob_ok X G c.2.1, glob_ok X G c.2.2.1, glob_ok X G c.2.2.2.1⟩
end
/-! ### lambdas' tables -/
/-- what is known of the table of a def's code object -/
structure LamK (K : PySem.W.Frag) (mg : Str → Option Value) (base : Heap) (cdv : Value) (qual : Str) : Prop where
  ex : ∃ c P, LamX.TabB base mg c P ∧ cdv = .ref c ∧ (P, qual ++ ".<locals>." ++ "<lambda>") ∈ tabsOf K ∧ ∀ p ∈ tabsOf K, p.1 = P → p.2 = qual ++ ".<locals>." ++ "<lambda>"
theorem LamK.c {X : Cx} {q : Str} (L : LamK X.K X.mg X.base X.env.code q) (h : X.env.qual = q ++ ".<locals>.") : LamC X (q ++ ".<locals>." ++ "<lambda>") := ⟨L.ex, by rw [h]⟩
theorem mem_of_lk {a : Addr} {o : Obj} : ∀ {K : PySem.W.Frag}, K.lookup a = some o → (a, o) ∈ K := fun {K} e => by
  induction K with
  | nil => cases e
  | cons q r ih =>
    obtain ⟨b, u⟩ := q
    rw [List.lookup_cons] at e
    cases hb : (a == b) with
    | true =>
      rw [hb] at e
      have := beq_iff_eq.mp hb
      subst this
      cases e
      exact List.mem_cons_self
    | false =>
      rw [hb] at e
      exact List.mem_cons_of_mem _ (ih e)
section
variable {P : Program} {w : World} {K : PySem.W.Frag} {mg : Str → Option Value} {base : Heap} {x qual : Str} {params : Arguments} {body : List Stmt} {scope : Scope} {dvs : List V} {kws : List (Str × V)} {p : Str × Option Str} {fd : FuncData} {N ps : List Str} {k : Nat} {sp : Spec} {core : S}
theorem fnOk_ofC0 (FD : FunD K x qual params body scope dvs kws (He.fAd K p) fd) (S : FnScope N ps scope)
    (len : ∀ ds cs Q PX, sp ds cs Q PX → ds.length = ps.length) (hU : tabsU K = true) (hO : K.lookup (He.cT K p).2 = none) (hT : LamX.TabB base mg (He.cT K p).1 (He.cT K p).2)
    (hb : ∀ (cdv : Value) (A : Around) (outer : List Env) (s : Shared) (H : Hp) (E : XK), LamK K mg base cdv qual → Ct (cxOf (L2N.CX P w) P w K mg base N qual scope (He.fAd K p) cdv A outer s H E) (wxOf E) k → JSs (cxOf (L2N.CX P w) P w K mg base N qual scope (He.fAd K p) cdv A outer s H E) (wxOf E) body core)
    (ok : okFn N.length core sp) : FnOk P w K mg base (L2N.CX P w) (k + 1) (He.fAd K p) fd ps (lift K mg sp) := by
  obtain ⟨oc, od, dV, kV, doc, pm, an, cdv, ct, osl, rfl, lk, hcd, _, _⟩ := FD.ex
  refine fn_of lk hcd S (fun vs H Q E h => ?_) fun A outer s H vs Q E hr h => ?_
  · obtain ⟨wd, F, cs, ds, PD, PX, R, r, s, q⟩ := h
    rw [r.length]
    exact len _ _ _ _ s
  · obtain ⟨wd, F, cs, ds, PD, PX, R, r, hs, q, xx⟩ := h
    obtain ⟨c, ec⟩ := He.codeIn_ref hcd
    have e1 : He.codeOf K p = c := He.codeOf_eq lk ec
    have hmem : (He.tabOf K c, qual ++ ".<locals>." ++ "<lambda>") ∈ tabsOf K := by
      refine List.mem_filterMap.mpr ⟨_, mem_of_lk lk, ?_⟩
      have hO' : K.lookup (He.tabOf K c) = none := by
        rw [← e1]
        exact hO
      show (match (PySem.W.fnOf x qual params body scope dV kV doc pm an cdv ct).code with
        | .ref c => if (K.lookup (He.tabOf K c)).isNone then some (He.tabOf K c, (PySem.W.fnOf x qual params body scope dV kV doc pm an cdv ct).qualname ++ ".<locals>." ++ "<lambda>") else none
        | _ => none) = _
      have e2 : (PySem.W.fnOf x qual params body scope dV kV doc pm an cdv ct).code = .ref c := ec
      rw [e2]
      show (if (K.lookup (He.tabOf K c)).isNone then some (He.tabOf K c, qual ++ ".<locals>." ++ "<lambda>") else none) = _
      rw [hO']
      rfl
    have LK : LamK K mg base cdv qual := by
      refine ⟨c, He.tabOf K c, ?_, ec, hmem, fun r hr h => ?_⟩
      · have hT : LamX.TabB base mg (He.codeOf K p) (He.tabOf K (He.codeOf K p)) := hT
        rw [e1] at hT
        exact hT
      · have z := List.all_eq_true.mp (List.all_eq_true.mp hU _ hr) _ hmem
        simp only [Bool.or_eq_true, Bool.not_eq_true', decide_eq_true_eq] at z
        rcases z with z | z
        · rw [h] at z
          simp at z
        · exact z
    obtain ⟨t, p1, r1⟩ := hb cdv A outer s H E LK ⟨rfl, S.nd, passes_of rfl, L2N.takes_of rfl rfl rfl rfl, hr⟩
    refine ⟨t, p1, ?_⟩
    exact r1 wd F _ cs _ H _ _ R (rs_start r) (ok ds cs PD PX hs) ⟨fun wd' τ cs' σ H' l R' rs' h' => q wd' .non cs' .non H' l R' rfl h', fun _ _ _ _ _ _ _ _ z => z.elim, fun _ _ _ _ _ _ _ _ z => z.elim, q, fun wd' y τ cs' σ cls dd H' l R' rs' rx z => xx wd' y cs' cls dd H' l R' rx z⟩
end
end G

/-! GFoD: what the program's finds and the laws' helpers over forests promise. -/
namespace G
open PySem (Str)
@[simp] theorem sAppend_e {n : Nat} {y : D} {cs : Cs} {Q : KD} {X : KX} : sAppend [.ref n, y] cs Q X = match cs n with
    | some (.lst xs) => xs.length < lim ∧ Q .non (put cs n (.lst (xs ++ [y])))
    | _ => False := rfl
@[simp] theorem sInsert_e {n : Nat} {i : Int} {y : D} {cs : Cs} {Q : KD} {X : KX} : sInsert [.ref n, .int i, y] cs Q X = match cs n with
    | some (.lst xs) => xs.length < lim ∧ 0 ≤ i ∧ i < 2 ^ 63 ∧ Q .non (put cs n (.lst (xs.take i.toNat ++ [y] ++ xs.drop i.toNat)))
    | _ => False := rfl
@[simp] theorem chkL_ref {n : Nat} {cs : Cs} : chkL (.ref n) cs = match cs n with
    | some (.lst xs) => True
    | _ => False := by
  unfold chkL
  simp only [getL_ref]
  cases cs n with
  | none => rfl
  | some o => cases o <;> rfl
@[simp] theorem sTupOf_e {x : D} {cs : Cs} {Q : KD} {X : KX} : sTupOf [x] cs Q X = match getQ x cs with
    | some xs => Q (.tup xs) cs
    | none => False := rfl
@[simp] theorem beqN {a b : Nat} : ((a : Int) == (b : Int)) = decide (a = b) := by
  rw [Bool.eq_iff_iff]
  simp
  omega
/-- nodes as values -/
def nI (xs : List Nat) : List D := xs.map fun n => D.int (n : Nat)
def fD (p : List Nat) : D := .tup (nI p)
def lD (xs : List Nat) : D := .lst (nI xs)
@[simp] theorem nI_len {xs : List Nat} : (nI xs).length = xs.length := by simp [nI]
@[simp] theorem nI_flat {xs : List Nat} : (nI xs).all flat = true := by
  rw [List.all_eq_true]
  intro d hd
  obtain ⟨n, _, e⟩ := List.mem_map.mp hd
  rw [← e]
  rfl
theorem nI_app {xs ys : List Nat} : nI (xs ++ ys) = nI xs ++ nI ys := by simp [nI]
theorem nI_get {xs : List Nat} {i : Nat} (h : i < xs.length) : (nI xs)[i]? = some (.int (xs[i] : Nat)) := by simp [nI, h]
theorem ix_par {p : List Nat} {i : Nat} (h : i < p.length) : ix (nI p) (i : Int) = some (.int (par p i : Nat)) := by
  have e : par p i = p[i] := by
    unfold par
    rw [List.getD_eq_getElem?_getD, List.getElem?_eq_getElem h]
    rfl
  rw [e]
  exact ix_nat (nI_get h)
theorem ix_lastI {xs : List Nat} {j : Nat} : ix (nI (xs ++ [j])) (-1) = some (.int (j : Nat)) := by
  rw [nI_app]
  exact ix_last
theorem getQ_fD {p : List Nat} {cs : Cs} : getQ (fD p) cs = some (nI p) := rfl
theorem getQ_lD {p : List Nat} {cs : Cs} : getQ (lD p) cs = some (nI p) := rfl
/-! ### need_node, path_of -/
theorem fD_str {p : List Nat} : ∀ s, fD p ≠ .str s := fun s e => by cases e
theorem compL_map {p : Pat} {grd : Cs → Prop} {σ : Sl} {tst elt : Sl → Cs → KD → Prop} {Q : List D → Cs → Prop} {cs : Cs} (f : D → D) (hg : grd cs) (items acc : List D)
    (h : ∀ x ∈ items, ∃ σ1, bindP p [x] σ = some σ1 ∧ (∀ K : KD, K (.bl true) cs → tst σ1 cs K) ∧ (∀ K : KD, K (f x) cs → elt σ1 cs K)) (hl : acc.length + items.length ≤ lim) (hQ : Q (acc ++ items.map f) cs) : compL p grd σ tst elt Q items acc cs := by
  refine compL_pure (fun _ => true) f hg items acc (fun x hx => ?_) hl ?_
  · obtain ⟨σ1, a, b, c⟩ := h x hx
    exact ⟨σ1, a, b, fun _ => c⟩
  · rw [show items.filter (fun _ => true) = items from List.filter_eq_self.mpr (by simp)]
    exact hQ
/-! ### compressed, find, find_all -/
def isSeq (x : D) (xs : List D) : Prop := x = .lst xs ∨ x = .tup xs
theorem isSeq.q {x : D} {xs : List D} {cs : Cs} (h : isSeq x xs) : getQ x cs = some xs := by
  rcases h with e | e <;> (rw [e]; rfl)
theorem isSeq.str {x : D} {xs : List D} (h : isSeq x xs) : ∀ s, x ≠ .str s := by
  rcases h with e | e <;> (rw [e]; intro s z; cases z)
theorem isSeq.g {x : D} {xs : List D} {cs c : Cs} (h : isSeq x xs) : grdL x cs c := by
  rcases h with e | e <;> (rw [e]; trivial)
theorem iSeq_e {x : D} {xs : List D} {cs : Cs} {R : List D → (Cs → Prop) → Prop} (h : isSeq x xs) (k : R xs (grdL x cs)) : iSeq [x] cs R := by
  show (match getQ x cs with
    | some xs => R xs (grdL x cs)
    | none => False)
  rw [h.q]
  exact k
end G

/-! GFoE: the laws' forests, nodes, paths. -/
namespace G
open PySem (Str)
theorem len_fD {p : List Nat} {cs : Cs} {Q : KD} {X : KX} : sLen [fD p] cs Q X = Q (.int (p.length : Nat)) cs := by
  rw [sLen_e fD_str]
  simp only [getQ_fD, nI_len]
/-! ### draws -/
def spShuf : Spec := fun ds cs Q _ => ∃ n x xs, ds = [.ref n, x] ∧ cs n = some .drw ∧ isSeq x xs ∧ xs.length ≤ 100000 ∧ ∀ ys : List D, ys.Perm xs → Q (.lst ys) cs
theorem spShuf_e {n : Nat} {x : D} {xs : List D} {cs : Cs} {Q : KD} {X : KX} (hc : cs n = some .drw) (hs : isSeq x xs) (hl : xs.length ≤ 100000) (hQ : ∀ ys : List D, ys.Perm xs → Q (.lst ys) cs) : spShuf [.ref n, x] cs Q X := ⟨_, _, _, rfl, hc, hs, hl, hQ⟩
theorem ins_perm {α : Type} (ys : List α) (r : Nat) (d : α) : (ys.take r ++ [d] ++ ys.drop r).Perm (ys ++ [d]) := by
  have h1 : (ys.take r ++ [d] ++ ys.drop r).Perm (ys.take r ++ ys.drop r ++ [d]) := by
    rw [List.append_assoc, List.append_assoc]
    exact List.Perm.append_left _ List.perm_append_comm
  rw [List.take_append_drop] at h1
  exact h1
theorem ok_shuf : okFn 4 (c_l_shuffled spTake) spShuf := by
  rintro ds cs Q X ⟨n, x, xs, rfl, hc, hs, hl, hQ⟩
  show wpS (.seq (c_l_shuffled_1 spTake) (.seq (c_l_shuffled_3 spTake) (.seq (.frz 2) (c_l_shuffled_4 spTake)))) [some (.ref n), some x, none, none] cs _
  simp only [wpS]
  rw [c_l_shuffled_1]
  simp only [wpS, wpE, wpEs, bindP, getV, List.set, sListM_e]
  refine ⟨Nat.zero_le _, fun m hm => ?_⟩
  have ne : n ≠ m := fun z => by rw [z, hm] at hc; cases hc
  rw [c_l_shuffled_3]
  simp only [wpS, wpE, wpEs, getV]
  refine iSeq_e hs (forL_inv (fun j σ c => ∃ ys a, c = put cs m (.lst ys) ∧ σ = [some (.ref n), some x, some (.ref m), a] ∧ ys.Perm (xs.take j)) _ 0 ⟨[], none, rfl, rfl, by simp⟩ (fun _ _ _ _ _ _ => hs.g) ?_ ?_)
  · rintro j d σ c hd ⟨ys, a, rfl, rfl, hp⟩
    have hj : j < xs.length := (List.getElem?_eq_some_iff.mp hd).1
    have ed : xs[j] = d := (List.getElem?_eq_some_iff.mp hd).2
    have ly : ys.length ≤ j := by
      rw [hp.length_eq, List.length_take]
      omega
    refine ⟨_, rfl, fun K' h1 h2 h3 h4 h5 => ?_⟩
    clear h3 h4 h5
    rw [c_l_shuffled_2]
    simp [put_ne ne, sLen_e, spTake_e, hc]
    refine ⟨by omega, fun r r0 r1 => ⟨show _ < 16777216 by omega, r0, by omega, h1 _ _ ⟨_, _, rfl, rfl, ?_⟩⟩⟩
    rw [Nat.zero_add, List.take_succ_eq_append_getElem hj, ed]
    rw [Nat.zero_add] at hp
    have h6 := (ins_perm ys r.toNat d).trans (hp.append_right [d])
    simpa using h6
  · rintro σ c ⟨ys, a, rfl, rfl, hp⟩
    rw [c_l_shuffled_4]
    simp
    rw [del_put hm]
    rw [Nat.zero_add, List.take_length] at hp
    exact hQ ys hp
def spSize : Spec := fun ds cs Q _ => ∃ n m, ds = [.ref n, .int m] ∧ cs n = some .drw ∧ 0 ≤ m ∧ m ≤ 1000 ∧ ∀ s : Nat, (s : Int) ≤ m → Q (.int (s : Nat)) cs
theorem spSize_e {n : Nat} {m : Int} {cs : Cs} {Q : KD} {X : KX} (hc : cs n = some .drw) (h0 : 0 ≤ m) (h1 : m ≤ 1000) (hQ : ∀ s : Nat, (s : Int) ≤ m → Q (.int (s : Nat)) cs) : spSize [.ref n, .int m] cs Q X := ⟨_, _, rfl, hc, h0, h1, hQ⟩
theorem ok_size : okFn 2 (c_l_size spOf spTake) spSize := by
  rintro ds cs Q X ⟨n, m, rfl, hc, h0, h1, hQ⟩
  show wpS (c_l_size_1 spOf spTake) [some (.ref n), some (.int m)] cs _
  rw [c_l_size_1]
  have go : ∀ x : Int, 0 ≤ x → x ≤ m → Q (.int x) cs := fun x a b => by
    have := hQ x.toNat (by omega)
    rwa [Int.toNat_of_nonneg a] at this
  simp [spTake_e, spOf_e, hc, lim]
  refine ⟨by omega, by omega, fun r r0 r1 y y0 y1 => ⟨go _ r0 (by omega), ?_, ?_⟩⟩
  · split <;> exact go _ (by omega) (by omega)
  · split <;> exact go _ (by omega) (by omega)
theorem perm_map_inv {α β : Type} {f : α → β} : ∀ {ys zs : List β}, ys.Perm zs → ∀ l : List α, zs = l.map f → ∃ l' : List α, l'.Perm l ∧ ys = l'.map f := by
  intro ys zs h
  induction h with
  | nil =>
    intro l e
    cases l with
    | nil => exact ⟨[], List.Perm.refl _, rfl⟩
    | cons x l => cases e
  | cons x h ih =>
    intro l e
    cases l with
    | nil => cases e
    | cons y l =>
      simp at e
      obtain ⟨l', h1, h2⟩ := ih l e.2
      exact ⟨y :: l', h1.cons y, by rw [e.1, h2]; rfl⟩
  | swap x y r =>
    intro l e
    cases l with
    | nil => cases e
    | cons a l =>
      cases l with
      | nil => simp at e
      | cons b l =>
        simp at e
        exact ⟨b :: a :: l, List.Perm.swap _ _ _, by rw [e.1, e.2.1, e.2.2]; rfl⟩
  | trans h1 h2 ih1 ih2 =>
    intro l e
    obtain ⟨l1, p1, e1⟩ := ih2 l e
    obtain ⟨l2, p2, e2⟩ := ih1 l1 e1
    exact ⟨l2, p2.trans p1, e2⟩
theorem rgD_nI {n : Nat} : rgD 0 (n : Int) = nI (List.range n) := by
  unfold rgD nI
  rw [show ((n : Int) - 0).toNat = n by omega]
  refine List.map_congr_left fun i _ => ?_
  rw [Int.zero_add]
/-- the nodes renamed -/
def ren (zs ps : List Nat) : Nat → List Nat
  | 0 => List.replicate ps.length 0
  | j + 1 => (ren zs ps j).set (par zs j) (par zs (par ps j))
theorem ren_len {zs ps : List Nat} : ∀ j, (ren zs ps j).length = ps.length
  | 0 => by simp [ren]
  | j + 1 => by rw [ren, List.length_set, ren_len j]
theorem par_get {p : List Nat} {i : Nat} (h : i < p.length) : par p i = p[i] := by
  unfold par
  rw [List.getD_eq_getElem?_getD, List.getElem?_eq_getElem h]
  rfl
theorem ren_at {zs ps : List Nat} (hn : zs.Nodup) (hz : zs.length = ps.length) (hlt : ∀ i, i < zs.length → par zs i < ps.length) : ∀ j, j ≤ ps.length → ∀ i, i < j → par (ren zs ps j) (par zs i) = par zs (par ps i)
  | 0, _, i, h => by omega
  | j + 1, hj, i, h => by
    have l := ren_len (zs := zs) (ps := ps) j
    have hi2 : par zs i < (ren zs ps j).length := by rw [l]; exact hlt i (by omega)
    rw [ren, par_get (by rw [List.length_set]; exact hi2), List.getElem_set]
    by_cases e : j = i
    · subst e
      rw [if_pos rfl]
    · have ne : par zs j ≠ par zs i := fun z => by
        rw [par_get (by omega), par_get (by omega)] at z
        have a := hn.idxOf_getElem j (by omega)
        rw [z, hn.idxOf_getElem i (by omega)] at a
        exact e a.symm
      rw [if_neg ne, ← par_get hi2]
      exact ren_at hn hz hlt j (by omega) i (by omega)
theorem ren_fo {zs ps : List Nat} (hp : zs.Perm (List.range ps.length)) (h : FoOk ps) : FoOk (ren zs ps ps.length) := by
  obtain ⟨r, hr⟩ := h
  have hn : zs.Nodup := hp.nodup_iff.mpr List.nodup_range
  have hz : zs.length = ps.length := by rw [hp.length_eq, List.length_range]
  have hlt : ∀ i, i < zs.length → par zs i < ps.length := fun i hi => by
    rw [par_get hi]
    exact List.mem_range.mp (hp.mem_iff.mp (List.getElem_mem hi))
  refine ⟨fun v => r (zs.idxOf v), fun v hv => ?_⟩
  rw [ren_len] at hv ⊢
  have hm : v ∈ zs := hp.mem_iff.mpr (List.mem_range.mpr hv)
  have hi : zs.idxOf v < zs.length := List.idxOf_lt_length_iff.mpr hm
  have ev : par zs (zs.idxOf v) = v := by
    rw [par_get hi]
    exact List.getElem_idxOf hi
  have at_ := ren_at hn hz hlt ps.length (Nat.le_refl _) (zs.idxOf v) (by omega)
  rw [ev] at at_
  have hr' := hr (zs.idxOf v) (by omega)
  rw [at_]
  have hpi : par ps (zs.idxOf v) < zs.length := by rw [hz]; exact hr'.1
  refine ⟨hlt _ hpi, hr'.2.1, ?_⟩
  have ei : zs.idxOf (par zs (par ps (zs.idxOf v))) = par ps (zs.idxOf v) := by
    rw [par_get hpi]
    exact hn.idxOf_getElem _ hpi
  show _ ∨ r (zs.idxOf (par zs (par ps (zs.idxOf v)))) < r (zs.idxOf v)
  rw [ei]
  rcases hr'.2.2 with z | z
  · left
    rw [z, ev]
  · exact .inr z
def spRen : Spec := fun ds cs Q _ => ∃ n x ps, ds = [.ref n, x] ∧ cs n = some .drw ∧ (∀ s, x ≠ .str s) ∧ (∀ c, Le cs c → getQ x c = some (nI ps)) ∧ FoOk ps ∧ ps.length ≤ 1000 ∧ ∀ q, FoOk q → q.length = ps.length → Q (fD q) cs
theorem spRen_e {n : Nat} {x : D} {ps : List Nat} {cs : Cs} {Q : KD} {X : KX} (hc : cs n = some .drw) (hx : ∀ s, x ≠ .str s) (hq : ∀ c, Le cs c → getQ x c = some (nI ps)) (h : FoOk ps) (hl : ps.length ≤ 1000) (hQ : ∀ q, FoOk q → q.length = ps.length → Q (fD q) cs) : spRen [.ref n, x] cs Q X := ⟨_, _, _, rfl, hc, hx, hq, h, hl, hQ⟩
theorem ixn_nat {n i : Nat} (h : i < n) : ixn n (i : Int) = some i := by
  unfold ixn
  rw [if_pos (by omega), if_pos (by omega)]
  simp
theorem flatten_ones {n : Nat} : (List.replicate n [D.int 0]).flatten = nI (List.replicate n 0) := by
  induction n with
  | zero => rfl
  | succ n ih =>
    rw [List.replicate_succ, List.flatten_cons, ih]
    rfl
@[simp] theorem sRepM_e {x : D} {k : Int} {cs : Cs} {Q : KD} {X : KX} : sRepM [x, .int k] cs Q X = match getL x cs with
    | some xs => -(2 ^ 63) ≤ k ∧ k < 2 ^ 63 ∧ xs.length * k.toNat ≤ lim ∧ ∀ n, cs n = none → Q (.ref n) (put cs n (.lst (List.replicate k.toNat xs).flatten))
    | none => False := rfl
@[simp] theorem sListRg_e {a b : Int} {cs : Cs} {Q : KD} {X : KX} : sListRg [.int a, .int b] cs Q X = (-(2 ^ 62) ≤ a ∧ a < 2 ^ 62 ∧ -(2 ^ 62) ≤ b ∧ b < 2 ^ 62 ∧ (b - a).toNat ≤ lim ∧ Q (.lst (rgD a b)) cs) := rfl
theorem nI_set {xs : List Nat} {i v : Nat} : (nI xs).set i (.int (v : Nat)) = nI (xs.set i v) := by simp [nI, List.map_set]
theorem ok_ren : okFnL 5 (c_l_renamed spShuf) spRen := by
  rintro ds cs Q X ⟨n, x, ps, rfl, hc, hx, hq, h, hl, hQ⟩
  show wpS (.seq (c_l_renamed_1 spShuf) (.seq (c_l_renamed_2 spShuf) (.seq (c_l_renamed_4 spShuf) (c_l_renamed_5 spShuf)))) [some (.ref n), some x, none, none, none] cs _
  have hq0 := hq cs (Le.refl _)
  simp only [wpS]
  rw [c_l_renamed_1]
  simp only [wpS, wpE, wpEs, bindP, getV, List.set]
  rw [sLen_e hx]
  simp only [hq0, nI_len, sListRg_e]
  refine ⟨by omega, by omega, by omega, by omega, show _ ≤ 16777216 by omega, ?_⟩
  rw [rgD_nI]
  refine spShuf_e hc (.inl rfl) (by rw [nI_len, List.length_range]; omega) fun ys hys => ?_
  obtain ⟨zs, hp, rfl⟩ := perm_map_inv hys (List.range ps.length) rfl
  show wpS (c_l_renamed_2 spShuf) [some (.ref n), some x, some (lD zs), none, none] cs _
  rw [c_l_renamed_2]
  simp only [wpS, wpE, wpEs, bindP, getV, List.set]
  simp only [sList_e, sLen_e hx, hq0, nI_len, sRepM_e, getL_lst]
  refine ⟨show 1 ≤ 16777216 by decide, by omega, by omega, show _ ≤ 16777216 by simp; omega, fun m hm => ?_⟩
  rw [Int.toNat_natCast, flatten_ones]
  have hn : zs.Nodup := hp.nodup_iff.mpr List.nodup_range
  have hz : zs.length = ps.length := by rw [hp.length_eq, List.length_range]
  have hlt : ∀ i, i < zs.length → par zs i < ps.length := fun i hi => by
    rw [par_get hi]
    exact List.mem_range.mp (hp.mem_iff.mp (List.getElem_mem hi))
  have hq2 : ∀ o, getQ x (put cs m o) = some (nI ps) := fun o => hq _ ((Le.refl _).put hm)
  rw [c_l_renamed_4]
  simp only [wpS, wpE, wpEs, getV]
  rw [sLen_e hx]
  simp only [hq2, nI_len]
  refine rng1_inv (fun j σ c => ∃ a, c = put cs m (.lst (nI (ren zs ps j))) ∧ σ = [some (.ref n), some x, some (lD zs), some (.ref m), a]) (by omega) (by omega) ⟨none, rfl, rfl⟩ ?_ ?_
  · rintro j σ c hj ⟨a, rfl, rfl⟩ K' h1 h2 h3 h4 h5
    clear h3 h4 h5
    have hj2 : j < ps.length := by omega
    have hpj := par_lt h hj2
    rw [c_l_renamed_3]
    simp [sIx_e, hq2, getQ_lD, ix_par hj2, ix_par (show par ps j < zs.length by omega), ix_par (show j < zs.length by omega), ixn_nat (show par zs j < (ren zs ps j).length by rw [ren_len]; exact hlt j (by omega)), nI_set]
    exact h1 _ _ ⟨_, rfl, rfl⟩
  · rintro σ c ⟨a, rfl, rfl⟩
    rw [c_l_renamed_5]
    simp
    exact ⟨cs, (Le.refl _).put hm, hQ _ (ren_fo hp h) (by rw [ren_len])⟩
/-! ### forests -/
def spForest : Spec := fun ds cs Q _ => ∃ n s m, ds = [.ref n, .int (s : Nat), .int m] ∧ cs n = some .drw ∧ s ≤ 1000 ∧ ∀ q, FoOk q → q.length = s → Q (fD q) cs
theorem spForest_e {n s : Nat} {m : Int} {cs : Cs} {Q : KD} {X : KX} (hc : cs n = some .drw) (hs : s ≤ 1000) (hQ : ∀ q, FoOk q → q.length = s → Q (fD q) cs) : spForest [.ref n, .int (s : Nat), .int m] cs Q X := ⟨_, _, _, rfl, hc, hs, hQ⟩
theorem fo_low {ps : List Nat} (h : ∀ i, i < ps.length → par ps i ≤ i) : FoOk ps := ⟨fun i => i, fun i hi => by
  have := h i hi
  exact ⟨by omega, hi, by
    show par ps i = i ∨ par ps i < i
    omega⟩⟩
theorem nI_snoc {xs : List Nat} {v : Nat} : nI xs ++ [.int (v : Nat)] = nI (xs ++ [v]) := by simp [nI]
theorem par_snoc {ps : List Nat} {v i : Nat} (h : i < ps.length) : par (ps ++ [v]) i = par ps i := by
  unfold par
  rw [List.getD_eq_getElem?_getD, List.getD_eq_getElem?_getD, List.getElem?_append_left h]
theorem par_snoc_last {ps : List Nat} {v : Nat} : par (ps ++ [v]) ps.length = v := by
  unfold par
  rw [List.getD_eq_getElem?_getD, List.getElem?_append_right (Nat.le_refl _)]
  simp
def fS (n : Nat) (s : Nat) (m : Int) (k : Int) (l : Nat) (σ : Sl) : Prop := ∃ a b c, σ = [some (.ref n), some (.int (s : Nat)), some (.int m), some (.int k), some (.ref l), a, b, c]
theorem ok_forest : okFnL 8 (c_l_forest spRen spTake) spForest := by
  rintro ds cs Q X ⟨n, s, m, rfl, hc, hs, hQ⟩
  show wpS (.seq (c_l_forest_1 spRen spTake) (.seq (c_l_forest_9 spRen spTake) (c_l_forest_10 spRen spTake))) [some (.ref n), some (.int (s : Nat)), some (.int m), none, none, none, none, none] cs _
  simp only [wpS]
  rw [c_l_forest_1]
  simp [spTake_e, hc, lim]
  intro k k0 k1 l hl
  have ne : n ≠ l := fun z => by rw [z, hl] at hc; cases hc
  rw [c_l_forest_9]
  simp only [wpS, wpE, wpEs, getV]
  refine rng1_inv (fun j σ c => ∃ ps, c = put cs l (.lst (nI ps)) ∧ fS n s m k l σ ∧ ps.length = j ∧ ∀ i, i < j → par ps i ≤ i) (by omega) (by omega) ⟨[], rfl, ⟨_, _, _, rfl⟩, rfl, fun i hi => by omega⟩ ?_ ?_
  · rintro j σ c hj ⟨ps, rfl, ⟨a, b, c, rfl⟩, hps, hlow⟩ K' h1 h2 h3 h4 h5
    clear h3 h4 h5
    have fin : ∀ (v : Int) (b : Option D), 0 ≤ v → v ≤ j → wpS (c_l_forest_8 spRen spTake) [some (.ref n), some (.int (s : Nat)), some (.int m), some (.int k), some (.ref l), some (.int (j : Nat)), b, some (.int v)] (put cs l (.lst (nI ps))) K' := by
      intro v b v0 v1
      obtain ⟨v, rfl⟩ : ∃ w : Nat, v = w := ⟨v.toNat, by omega⟩
      rw [c_l_forest_8]
      simp [nI_snoc, lim]
      refine ⟨by omega, h1 _ _ ⟨ps ++ [v], rfl, ⟨_, _, _, rfl⟩, by simp [hps], fun i hi => ?_⟩⟩
      by_cases e : i < ps.length
      · rw [par_snoc e]
        exact hlow i (by omega)
      · rw [show i = ps.length by omega, par_snoc_last]
        omega
    have mid7 : ∀ (v : Int) (b : Option D), (j = 0 ∨ 0 ≤ v) → v ≤ j → wpS (c_l_forest_7 spRen spTake) [some (.ref n), some (.int (s : Nat)), some (.int m), some (.int k), some (.ref l), some (.int (j : Nat)), b, some (.int v)] (put cs l (.lst (nI ps))) { nx := fun σ' cs' => wpS (c_l_forest_8 spRen spTake) σ' cs' K', bk := K'.bk, ct := K'.ct, rt := K'.rt, ex := K'.ex } := by
      intro v b v0 v1
      have yes : wpS (c_l_forest_6 spRen spTake) [some (.ref n), some (.int (s : Nat)), some (.int m), some (.int k), some (.ref l), some (.int (j : Nat)), b, some (.int v)] (put cs l (.lst (nI ps))) { nx := fun σ' cs' => wpS (c_l_forest_8 spRen spTake) σ' cs' K', bk := K'.bk, ct := K'.ct, rt := K'.rt, ex := K'.ex } := by
        rw [c_l_forest_6]
        simp
        exact fin _ _ (by omega) (by omega)
      rw [c_l_forest_7]
      simp [spTake_e, put_ne ne, hc]
      by_cases e : j = 0
      · rw [if_pos e]
        exact yes
      · rw [if_neg e]
        have no := fin v b (by omega) v1
        split
        · intro r r0 r1
          split
          · exact yes
          · exact no
        · exact no
    have mid5 : ∀ (v : Int) (b : Option D), (j = 0 ∨ 0 ≤ v) → v ≤ j → wpS (c_l_forest_5 spRen spTake) [some (.ref n), some (.int (s : Nat)), some (.int m), some (.int k), some (.ref l), some (.int (j : Nat)), b, some (.int v)] (put cs l (.lst (nI ps))) { nx := fun σ' cs' => wpS (.seq (c_l_forest_7 spRen spTake) (c_l_forest_8 spRen spTake)) σ' cs' K', bk := K'.bk, ct := K'.ct, rt := K'.rt, ex := K'.ex } := by
      intro v b v0 v1
      simp only [wpS]
      rw [c_l_forest_5]
      simp
      split
      · rw [c_l_forest_4]
        simp [spTake_e, put_ne ne, hc]
        intro r r0 r1
        refine mid7 _ _ ?_ ?_
        · right
          split <;> omega
        · split <;> omega
      · exact mid7 _ _ v0 v1
    show wpS (.seq (c_l_forest_2 spRen spTake) (.seq (c_l_forest_3 spRen spTake) (.seq (c_l_forest_5 spRen spTake) (.seq (c_l_forest_7 spRen spTake) (c_l_forest_8 spRen spTake))))) _ _ _
    simp only [wpS] at mid5 ⊢
    simp only [List.set]
    rw [c_l_forest_2]
    simp [lim]
    rw [c_l_forest_3]
    simp [spTake_e, put_ne ne, hc]
    split
    · rename_i k4
      have k3 : k = 0 ∨ k = 1 ∨ k = 2 ∨ k = 3 := by omega
      rcases k3 with e | e | e | e <;> subst e <;> simp <;> refine mid5 _ _ ?_ ?_ <;> (try split) <;> omega
    · split
      · refine ⟨by omega, by omega, fun r r0 r1 => mid5 _ _ (.inr r0) (by omega)⟩
      · refine ⟨by omega, by omega, fun r r0 r1 => mid5 _ _ (.inr r0) (by omega)⟩
  · rintro σ c ⟨ps, rfl, ⟨a, b, c, rfl⟩, hps, hlow⟩
    have hps : ps.length = s := by simpa using hps
    rw [c_l_forest_10]
    simp
    refine spRen_e (by rw [put_ne ne]; exact hc) (fun s e => by cases e) (fun c hc => ?_) (fo_low fun i hi => hlow i (by simpa [hps] using hi)) (by omega) fun q h1 h2 => ⟨cs, (Le.refl _).put hl, hQ q h1 (by omega)⟩
    exact getQ_cell (hc l _ put_same)
def spSome : Spec := fun ds cs Q _ => ∃ n m, ds = [.ref n, .int m] ∧ cs n = some .drw ∧ 0 ≤ m ∧ m ≤ 1000 ∧ ∀ q, FoOk q → (q.length : Int) ≤ m → Q (fD q) cs
theorem spSome_e {n : Nat} {m : Int} {cs : Cs} {Q : KD} {X : KX} (hc : cs n = some .drw) (h0 : 0 ≤ m) (h1 : m ≤ 1000) (hQ : ∀ q, FoOk q → (q.length : Int) ≤ m → Q (fD q) cs) : spSome [.ref n, .int m] cs Q X := ⟨_, _, rfl, hc, h0, h1, hQ⟩
theorem ok_some : okFn 2 (c_l_some_forest spForest spSize spTake) spSome := by
  rintro ds cs Q X ⟨n, m, rfl, hc, h0, h1, hQ⟩
  show wpS (c_l_some_forest_1 spForest spSize spTake) [some (.ref n), some (.int m)] cs _
  rw [c_l_some_forest_1]
  simp only [wpS, wpE, wpEs, getV]
  refine spSize_e hc h0 h1 fun s hs => ?_
  simp [spTake_e, hc]
  intro r r0 r1
  exact spForest_e hc (by omega) fun q a b => hQ q a (by omega)
end G

/-! GFoF: more rewriting rules for lists of nodes. -/
namespace G
open PySem (Str)
@[simp] theorem sRev_l {xs : List D} {cs : Cs} {Q : KD} {X : KX} : sRev [.lst xs] cs Q X = Q (.lst xs.reverse) cs := rfl
theorem purs_nI {k : Nat} {xs : List Nat} : purs k (nI xs) = true := purs_of fun x hx => by
  obtain ⟨i, _, e⟩ := List.mem_map.mp hx
  rw [← e]
  cases k <;> rfl
theorem pur_fD {k : Nat} {xs : List Nat} (h : xs.length ≤ 16777216) : pur (k + 1) (fD xs) = true := by
  show (decide ((nI xs).length ≤ lim) && purs k (nI xs)) = true
  rw [purs_nI, nI_len, decide_eq_true (show xs.length ≤ lim from h)]
  rfl
end G

/-! GWay: marked nodes, ways from a forest to another. -/
namespace G
open PySem (Str)
/-! ### promises -/
theorem len_lD {p : List Nat} {cs : Cs} {Q : KD} {X : KX} : sLen [lD p] cs Q X = Q (.int (p.length : Nat)) cs := by
  rw [sLen_e (by intro s e; cases e)]
  simp only [getQ_lD, nI_len]
def sub (p : List Nat) (i : Nat) : List Nat := (List.range p.length).filter fun j => decide (i ∈ path p j)
/-! ### ways -/
def chg (p q : List Nat) : List Nat := (List.range p.length).filter fun i => !decide (par p i = par q i)
structure Pair (p q : List Nat) : Prop where
  len : q.length = p.length
  rts : ∀ i, i < p.length → (par p i = i ↔ par q i = i)
/-- nothing bars the way -/
def Free (p q : List Nat) (i : Nat) : Prop := ∀ j ∈ (path p i).dropLast, par q j = root p i
structure Way (p q : List Nat) : Prop extends Pair p q where
  fo : FoOk p
  free : ∀ i ∈ chg p q, Free p q i
end G

/-! GWayM: the ways to forests that finds make. Plain mathematics. -/
namespace G
section
variable {p : List Nat} {M : Nat → Bool}
end
/-! ### all but one of the needed nodes -/
section
variable {p xs : List Nat} {t : Nat} {rest : List Nat}
end
end G

/-! GAny: any; a returned cell read as a tree. -/
namespace G
open PySem PySem.Spec L2
def sAny : Spec := fun ds cs Q _ => match ds with
  | [x] => match getL x cs with
    | some xs => match asBools xs with
      | some bs => Q (.bl (bs.any id)) cs
      | none => False
    | none => False
  | _ => False
@[simp] theorem sAny_e {x : D} {cs : Cs} {Q : KD} {X : KX} : sAny [x] cs Q X = match getL x cs with
    | some xs => match asBools xs with
      | some bs => Q (.bl (bs.any id)) cs
      | none => False
    | none => False := rfl
section
variable {P : Program} {w : World} {K : PySem.W.Frag} {mg : Str → Option Value} {base : Heap} {k : Nat} {f : Addr} {fd : FuncData} {ps : List Str} {sp : Spec}
end
section
variable {X : Cx} {W : WX} {pos p : Pos} {a : Expr} {ca : E} {K : PySem.W.Frag}
end
end G

/-! GTup: + of tuples, empty ones too. -/
namespace G
open PySem PySem.Spec L2
section
variable {X : Cx} {W : WX} {pos : Pos} {a b : Expr} {ca cb : E}
end
end G

namespace G
def c_leads_to_root_1 : S := (.ret (.c (.bl true)))
def c_leads_to_root_2 : S := (.ite (.app sEq (.cons (.app sIx (.cons (.v 0) (.cons (.v 1) .nil))) (.cons (.v 1) .nil))) (c_leads_to_root_1) .skip)
def c_leads_to_root_3 : S := (.asg (.nm 1) (.app sIx (.cons (.v 0) (.cons (.v 1) .nil))))
def c_leads_to_root_4 : S := (.fr (.nm 2) iRng1 (.cons (.app sLen (.cons (.v 0) .nil)) .nil) (.seq (c_leads_to_root_2) (c_leads_to_root_3)))
def c_leads_to_root_5 : S := (.ret (.c (.bl false)))
def c_leads_to_root : S := (.seq (c_leads_to_root_4) (c_leads_to_root_5))
def c_is_forest_1 (p_leads_to_root : G.Spec) : S := (.ret (.c (.bl false)))
def c_is_forest_2 (p_leads_to_root : G.Spec) : S := (.ite (.or (.app sGt (.cons (.app sLen (.cons (.v 0) .nil)) (.cons (.c (.int 40)) .nil))) (.app sNot (.cons (.app sAll (.cons (.comp false [2] (.nm 2) iSeq (.cons (.v 0) .nil) (.c (.bl true)) (.chain sLe sLt (.c (.int 0)) (.v 2) (.app sLen (.cons (.v 0) .nil)))) .nil)) .nil))) (c_is_forest_1 p_leads_to_root) .skip)
def c_is_forest_3 (p_leads_to_root : G.Spec) : S := (.ret (.app sAll (.cons (.comp false [1] (.nm 1) iRng1 (.cons (.app sLen (.cons (.v 0) .nil)) .nil) (.c (.bl true)) (.app p_leads_to_root (.cons (.v 0) (.cons (.v 1) .nil)))) .nil)))
def c_is_forest (p_leads_to_root : G.Spec) : S := (.seq (c_is_forest_2 p_leads_to_root) (c_is_forest_3 p_leads_to_root))
end G

namespace G
def c_parse_number_1 : S := (.asg (.nm 1) (.ite (.app sEq (.cons (.app sCutHiA (.cons (.v 0) (.cons (.c (.int 1)) .nil))) (.cons (.c (.str "-")) .nil))) (.app sCutLoA (.cons (.v 0) (.cons (.c (.int 1)) .nil))) (.v 0)))
def c_parse_number_2 : S := (.ret (.c .non))
def c_parse_number_3 : S := (.ite (.or (.app sNot (.cons (.chain sLe sLe (.c (.int 1)) (.app sLen (.cons (.v 1) .nil)) (.c (.int 31))) .nil)) (.app sNot (.cons (.app sAll (.cons (.comp false [2] (.nm 2) iStr (.cons (.v 1) .nil) (.c (.bl true)) (.app sInStr (.cons (.v 2) (.cons (.c (.str "0123456789")) .nil)))) .nil)) .nil))) (c_parse_number_2) .skip)
def c_parse_number_4 : S := (.ret (.c .non))
def c_parse_number_5 : S := (.ite (.and (.app sEq (.cons (.app sIxA (.cons (.v 1) (.cons (.c (.int 0)) .nil))) (.cons (.c (.str "0")) .nil))) (.app sNe (.cons (.v 0) (.cons (.c (.str "0")) .nil)))) (c_parse_number_4) .skip)
def c_parse_number_6 : S := (.ret (.app sIntS (.cons (.v 0) .nil)))
def c_parse_number : S := (.seq (c_parse_number_1) (.seq (c_parse_number_3) (.seq (c_parse_number_5) (c_parse_number_6))))
def c_format_forest_1 : S := (.ret (.meth chkS sJoin (.c (.str " ")) (.cons (.comp false [1, 2] (.tup (.cons (.nm 1) (.cons (.nm 2) .nil))) iEnum (.cons (.v 0) .nil) (.c (.bl true)) (.ite (.app sEq (.cons (.v 2) (.cons (.v 1) .nil))) (.c (.str "-")) (.app sStrI (.cons (.v 2) .nil)))) .nil)))
def c_format_forest : S := (c_format_forest_1)
def c_parse_parent_1 (p_parse_number : G.Spec) : S := (.asg (.nm 2) (.ite (.app sEq (.cons (.v 1) (.cons (.c (.str "-")) .nil))) (.v 0) (.app p_parse_number (.cons (.v 1) .nil))))
def c_parse_parent_2 (p_parse_number : G.Spec) : S := (.ret (.ite (.and (.app sEq (.cons (.v 2) (.cons (.v 0) .nil))) (.app sNe (.cons (.v 1) (.cons (.c (.str "-")) .nil)))) (.c .non) (.v 2)))
def c_parse_parent (p_parse_number : G.Spec) : S := (.seq (c_parse_parent_1 p_parse_number) (c_parse_parent_2 p_parse_number))
def c_parse_forestX_1 (p_is_forest : G.Spec) (p_parse_parent : G.Spec) : S := (.asg (.nm 1) (.ite (.app sEq (.cons (.v 0) (.cons (.c (.str "")) .nil))) (.app sList .nil) (.meth chkS sSplit (.v 0) (.cons (.c (.str " ")) .nil))))
def c_parse_forestX_2 (p_is_forest : G.Spec) (p_parse_parent : G.Spec) : S := (.asg (.nm 2) (.comp false [3, 4] (.tup (.cons (.nm 3) (.cons (.nm 4) .nil))) iEnum (.cons (.v 1) .nil) (.c (.bl true)) (.app p_parse_parent (.cons (.v 3) (.cons (.v 4) .nil)))))
def c_parse_forestX_3 (p_is_forest : G.Spec) (p_parse_parent : G.Spec) : S := (.rse (fun ds => er "ParseError" "pos" (ds.headD .non)) (.cons (.c (.int 0)) .nil))
def c_parse_forestX_4 (p_is_forest : G.Spec) (p_parse_parent : G.Spec) : S := (.ite (.or (.app sIn (.cons (.c .non) (.cons (.v 2) .nil))) (.app sNot (.cons (.app p_is_forest (.cons (.app sTupOf (.cons (.v 2) .nil)) .nil)) .nil))) (c_parse_forestX_3 p_is_forest p_parse_parent) .skip)
def c_parse_forestX_5 (p_is_forest : G.Spec) (p_parse_parent : G.Spec) : S := (.ret (.app sTupOf (.cons (.v 2) .nil)))
def c_parse_forestX (p_is_forest : G.Spec) (p_parse_parent : G.Spec) : S := (.seq (c_parse_forestX_1 p_is_forest p_parse_parent) (.seq (c_parse_forestX_2 p_is_forest p_parse_parent) (.seq (c_parse_forestX_4 p_is_forest p_parse_parent) (c_parse_forestX_5 p_is_forest p_parse_parent))))
def c_l_shown_1 : S := (.ret (.meth chkS sJoin (.c (.str " ")) (.cons (.comp false [1] (.nm 1) iRng1 (.cons (.app sLen (.cons (.v 0) .nil)) .nil) (.c (.bl true)) (.ite (.app sEq (.cons (.app sIx (.cons (.v 0) (.cons (.v 1) .nil))) (.cons (.v 1) .nil))) (.c (.str "-")) (.app sStrI (.cons (.app sIx (.cons (.v 0) (.cons (.v 1) .nil))) .nil)))) .nil)))
def c_l_shown : S := (c_l_shown_1)
end G

/-! GWayG: bars of ways, told for all pairs; needed nodes one by one; ways counted. -/
namespace G
open PySem (Str)
/-! ### bars -/
/-! ### needed nodes one by one -/
end G

/-! GSameR: _law_same of what denotes the same tree: cells count as their lists, at any depth. -/
namespace G
open PySem (Str)
def densW (f : D → Option D) : List D → Option (List D)
  | [] => some []
  | x :: xs => match f x, densW f xs with
    | some a, some b => some (a :: b)
    | _, _ => none
/-- the tree that a value denotes, not deeper -/
def den (cs : Cs) : Nat → D → Option D
  | _, .non => some .non
  | _, .bl b => some (.bl b)
  | _, .int i => some (.int i)
  | _, .str s => if strOk s then some (.str s) else none
  | k + 1, .lst xs => if xs.length ≤ lim then (densW (den cs k) xs).map .lst else none
  | k + 1, .tup xs => if xs.length ≤ lim then (densW (den cs k) xs).map .tup else none
  | k + 1, .ref n => match cs n with
    | some (.lst xs) => if xs.length ≤ lim then (densW (den cs k) xs).map .lst else none
    | _ => none
  | _, _ => none
def spSR : Nat → Spec
  | 0 => fun _ _ _ _ => False
  | k + 1 => fun ds cs Q _ => ∃ x y t, ds = [x, y] ∧ den cs k x = some t ∧ den cs k y = some t ∧ Q (.bl true) cs
theorem densW_len {f : D → Option D} : ∀ {xs ts : List D}, densW f xs = some ts → xs.length = ts.length
  | [], ts, h => by
    cases h
    rfl
  | x :: xs, ts, h => by
    unfold densW at h
    split at h
    · rename_i a b e1 e2
      cases h
      simp [densW_len e2]
    · cases h
theorem densW_zip {f : D → Option D} : ∀ {xs ys ts : List D}, densW f xs = some ts → densW f ys = some ts → ∀ d ∈ zipD xs ys, ∃ a b t, d = .tup [a, b] ∧ f a = some t ∧ f b = some t
  | [], _, _, _, _, d, hd => by cases hd
  | x :: xs, [], _, _, _, d, hd => by cases hd
  | x :: xs, y :: ys, ts, h, k, d, hd => by
    unfold densW at h k
    split at h
    · rename_i a b e1 e2
      cases h
      split at k
      · rename_i a2 b2 e3 e4
        cases k
        rcases List.mem_cons.mp (show d ∈ D.tup [x, y] :: zipD xs ys from hd) with z | z
        · exact ⟨x, y, a, z, e1, e3⟩
        · exact densW_zip e2 e4 d z
      · cases k
    · cases h
theorem zipD_len2 : ∀ {xs ys : List D}, xs.length = ys.length → (zipD xs ys).length = xs.length
  | [], [], _ => rfl
  | x :: xs, y :: ys, h => by
    show (zipD xs ys).length + 1 = _
    rw [zipD_len2 (by simpa using h)]
    rfl
/-- a list, or a cell with it -/
def LstAt (cs : Cs) (x : D) (xs : List D) : Prop := x = .lst xs ∨ ∃ n, x = .ref n ∧ cs n = some (.lst xs)
theorem den_lst {cs : Cs} {k : Nat} {x : D} {ts : List D} (h : den cs k x = some (.lst ts)) : ∃ k' xs, k = k' + 1 ∧ LstAt cs x xs ∧ xs.length ≤ lim ∧ densW (den cs k') xs = some ts := by
  cases k with
  | zero =>
    cases x with
    | str s =>
      simp only [den] at h
      split at h <;> cases h
    | _ => simp [den] at h
  | succ k =>
    cases x with
    | lst xs =>
      simp only [den] at h
      split at h
      · rename_i hl
        cases e : densW (den cs k) xs with
        | none =>
          rw [e] at h
          cases h
        | some ys =>
          rw [e] at h
          cases h
          exact ⟨k, xs, rfl, .inl rfl, hl, e⟩
      · cases h
    | ref n =>
      simp only [den] at h
      split at h
      · rename_i xs hc
        split at h
        · rename_i hl
          cases e : densW (den cs k) xs with
          | none =>
            rw [e] at h
            cases h
          | some ys =>
            rw [e] at h
            cases h
            exact ⟨k, xs, rfl, .inr ⟨n, rfl, hc⟩, hl, e⟩
        · cases h
      · cases h
    | tup xs =>
      simp only [den] at h
      split at h
      · cases e : densW (den cs k) xs with
        | none => rw [e] at h; cases h
        | some ys => rw [e] at h; cases h
      · cases h
    | str s =>
      simp only [den] at h
      split at h <;> cases h
    | _ => simp [den] at h
theorem den_tup {cs : Cs} {k : Nat} {x : D} {ts : List D} (h : den cs k x = some (.tup ts)) : ∃ k' xs, k = k' + 1 ∧ x = .tup xs ∧ xs.length ≤ lim ∧ densW (den cs k') xs = some ts := by
  cases k with
  | zero =>
    cases x with
    | str s =>
      simp only [den] at h
      split at h <;> cases h
    | _ => simp [den] at h
  | succ k =>
    cases x with
    | tup xs =>
      simp only [den] at h
      split at h
      · rename_i hl
        cases e : densW (den cs k) xs with
        | none =>
          rw [e] at h
          cases h
        | some ys =>
          rw [e] at h
          cases h
          exact ⟨k, xs, rfl, rfl, hl, e⟩
      · cases h
    | ref n =>
      simp only [den] at h
      split at h
      · split at h
        · rename_i xs _ _
          cases e : densW (den cs k) xs with
          | none => rw [e] at h; cases h
          | some ys => rw [e] at h; cases h
        · cases h
      · cases h
    | lst xs =>
      simp only [den] at h
      split at h
      · cases e : densW (den cs k) xs with
        | none => rw [e] at h; cases h
        | some ys => rw [e] at h; cases h
      · cases h
    | str s =>
      simp only [den] at h
      split at h <;> cases h
    | _ => simp [den] at h
/-- what denotes a plain thing is it -/
theorem den_flat {cs : Cs} {k : Nat} {x t : D} (h : den cs k x = some t) (hf : flat t = true) : x = t ∧ (∀ s, t = .str s → strOk s = true) := by
  cases x with
  | lst xs =>
    cases k with
    | zero => simp [den] at h
    | succ k =>
      simp only [den] at h
      split at h
      · cases e : densW (den cs k) xs with
        | none => rw [e] at h; cases h
        | some ys => rw [e] at h; cases h; cases hf
      · cases h
  | tup xs =>
    cases k with
    | zero => simp [den] at h
    | succ k =>
      simp only [den] at h
      split at h
      · cases e : densW (den cs k) xs with
        | none => rw [e] at h; cases h
        | some ys => rw [e] at h; cases h; cases hf
      · cases h
  | ref n =>
    cases k with
    | zero => simp [den] at h
    | succ k =>
      simp only [den] at h
      split at h
      · split at h
        · rename_i xs _ _
          cases e : densW (den cs k) xs with
          | none => rw [e] at h; cases h
          | some ys => rw [e] at h; cases h; cases hf
        · cases h
      · cases h
  | str s =>
    cases k <;> (simp only [den] at h; split at h <;> cases h; rename_i hs; exact ⟨rfl, fun s' e => by cases e; exact hs⟩)
  | dic _ _ => cases k <;> simp [den] at h
  | scr => cases k <;> simp [den] at h
  | clo _ _ _ => cases k <;> simp [den] at h
  | non => cases k <;> (simp only [den] at h; cases h; exact ⟨rfl, fun s e => by cases e⟩)
  | bl b => cases k <;> (simp only [den] at h; cases h; exact ⟨rfl, fun s e => by cases e⟩)
  | int b => cases k <;> (simp only [den] at h; cases h; exact ⟨rfl, fun s e => by cases e⟩)
theorem map_no {o : Option (List D)} {g : List D → D} {t : D} (h : o.map g = some t) : ∃ ys, t = g ys := by
  cases o with
  | none => cases h
  | some ys =>
    cases h
    exact ⟨ys, rfl⟩
def treeD : D → Prop
  | .dic _ _ => False
  | .ref _ => False
  | .scr => False
  | .clo _ _ _ => False
  | _ => True
theorem den_no {cs : Cs} {k : Nat} {x t : D} (h : den cs k x = some t) : treeD t := by
  cases x with
  | lst xs =>
    cases k with
    | zero => simp [den] at h
    | succ k =>
      simp only [den] at h
      split at h
      · obtain ⟨ys, e⟩ := map_no h
        rw [e]
        trivial
      · cases h
  | tup xs =>
    cases k with
    | zero => simp [den] at h
    | succ k =>
      simp only [den] at h
      split at h
      · obtain ⟨ys, e⟩ := map_no h
        rw [e]
        trivial
      · cases h
  | ref n =>
    cases k with
    | zero => simp [den] at h
    | succ k =>
      simp only [den] at h
      split at h
      · split at h
        · obtain ⟨ys, e⟩ := map_no h
          rw [e]
          trivial
        · cases h
      · cases h
  | str s =>
    cases k <;> (simp only [den] at h; split at h <;> cases h; trivial)
  | dic _ _ => cases k <;> simp [den] at h
  | scr => cases k <;> simp [den] at h
  | clo _ _ _ => cases k <;> simp [den] at h
  | non => cases k <;> (simp only [den] at h; cases h; trivial)
  | bl b => cases k <;> (simp only [den] at h; cases h; trivial)
  | int b => cases k <;> (simp only [den] at h; cases h; trivial)
theorem ok_sameR (k : Nat) (hk : k ≤ 64) : okFn 4 (c_same (spSR k)) (spSR (k + 1)) := by
  rintro ds cs Q X ⟨x, y, t, rfl, hx, hy, hQ⟩
  show wpS (c_same (spSR k)) [some x, some y, none, none] cs _
  unfold c_same
  simp only [wpS]
  have seqs : ∀ (k' : Nat) (xs ys ts : List D), k = k' + 1 → densW (den cs k') xs = some ts → densW (den cs k') ys = some ts → xs.length ≤ lim → ∀ (σ : Sl) (R : List D → Cs → Prop) (a b : Option D),
      R (List.replicate xs.length (.bl true)) cs → ∀ grd : Cs → Prop, grd cs → compL (.tup (.cons (.nm 2) (.cons (.nm 3) .nil))) grd [some x, some y, none, none] (fun σ1 c2 K => K (D.bl true) c2) (fun σ1 c2 K => wpE (.app (spSR k) (.cons (.v 2) (.cons (.v 3) .nil))) σ1 c2 K fun _ _ => False) R (zipD xs ys) [] cs := fun k' xs ys ts ek hx hy hl σ R a b hR grd hg => by
    have le : xs.length = ys.length := (densW_len hx).trans (densW_len hy).symm
    refine compL_map (fun _ => .bl true) hg _ _ (fun d hd => ?_) (by rw [zipD_len2 le]; simpa using hl) ?_
    · obtain ⟨a, b, u, e, h1, h2⟩ := densW_zip hx hy d hd
      subst e
      refine ⟨_, rfl, fun K h => h, fun K h => ?_⟩
      subst ek
      exact ⟨a, b, u, rfl, h1, h2, h⟩
    · rw [List.nil_append, map_const, zipD_len2 le]
      exact hR
  rw [c_same_2]
  cases t with
  | lst ts =>
    obtain ⟨k1, xs, ek, ax, lx, dx⟩ := den_lst hx
    obtain ⟨k2, ys, ek2, ay, ly, dy⟩ := den_lst hy
    have e12 : k1 = k2 := by omega
    subst e12
    have le : xs.length = ys.length := (densW_len dx).trans (densW_len dy).symm
    rcases ax with rfl | ⟨n, rfl, hn⟩ <;> rcases ay with rfl | ⟨m, rfl, hm⟩
    · simp [isN]
      rw [c_same_6]
      simp [isTy]
      rw [c_same_4]
      simp [isTy]
      rw [c_same_5]
      simp [iZip, le]
      refine seqs k1 xs ys ts ek dx dy lx [] _ none none ?_ _ (by simp [grdL])
      simp [asBools_true]
      exact hQ
    · simp [isN]
      rw [c_same_6]
      simp [isTy, hm]
      rw [c_same_4]
      simp [isTy, hm]
      rw [c_same_5]
      simp [iZip, le, hm]
      refine seqs k1 xs ys ts ek dx dy lx [] _ none none ?_ _ (by simp [grdL])
      simp [asBools_true]
      exact hQ
    · simp [isN]
      rw [c_same_6]
      simp [isTy, hn]
      rw [c_same_4]
      simp [isTy, hn]
      rw [c_same_5]
      simp [iZip, le, hn]
      refine seqs k1 xs ys ts ek dx dy lx [] _ none none ?_ _ (by simp [grdL])
      simp [asBools_true]
      exact hQ
    · simp [isN]
      rw [c_same_6]
      simp [isTy, hn, hm]
      rw [c_same_4]
      simp [isTy, hn, hm]
      rw [c_same_5]
      simp [iZip, le, hn, hm]
      refine seqs k1 xs ys ts ek dx dy lx [] _ none none ?_ _ (by simp [grdL])
      simp [asBools_true]
      exact hQ
  | tup ts =>
    obtain ⟨k1, xs, ek, rfl, lx, dx⟩ := den_tup hx
    obtain ⟨k2, ys, ek2, rfl, ly, dy⟩ := den_tup hy
    have e12 : k1 = k2 := by omega
    subst e12
    have le : xs.length = ys.length := (densW_len dx).trans (densW_len dy).symm
    simp [isN]
    rw [c_same_6]
    simp [isTy]
    rw [c_same_4]
    simp [isTy]
    rw [c_same_5]
    simp [iZip, le]
    refine seqs k1 xs ys ts ek dx dy lx [] _ none none ?_ _ trivial
    simp [asBools_true]
    exact hQ
  | non =>
    obtain ⟨rfl, _⟩ := den_flat hx rfl
    obtain ⟨rfl, _⟩ := den_flat hy rfl
    rw [c_same_1]
    simp [isN]
    exact hQ
  | int i =>
    obtain ⟨rfl, _⟩ := den_flat hx rfl
    obtain ⟨rfl, _⟩ := den_flat hy rfl
    simp [isN]
    rw [c_same_6]
    simp [isTy]
    rw [c_same_8]
    simp [isTy]
    rw [c_same_9]
    simp [isTy]
    exact hQ
  | bl i =>
    obtain ⟨rfl, _⟩ := den_flat hx rfl
    obtain ⟨rfl, _⟩ := den_flat hy rfl
    simp [isN]
    rw [c_same_6]
    simp [isTy]
    rw [c_same_8]
    simp [isTy]
    rw [c_same_9]
    simp [isTy]
    exact hQ
  | str i =>
    obtain ⟨rfl, hs⟩ := den_flat hx rfl
    obtain ⟨rfl, _⟩ := den_flat hy rfl
    simp [isN]
    rw [c_same_6]
    simp [isTy]
    rw [c_same_8]
    simp [isTy]
    rw [c_same_9]
    simp [isTy, sEq_e, deref, pur, eqD, hs i rfl]
    exact hQ
  | dic _ _ => exact (den_no hx).elim
  | ref _ => exact (den_no hx).elim
  | scr => exact (den_no hx).elim
  | clo _ _ _ => exact (den_no hx).elim
mutual
theorem den_pur {cs : Cs} : ∀ (k : Nat) (x : D), pur k x = true → den cs k x = some x
  | k, .non, _ => by cases k <;> rfl
  | k, .bl b, _ => by cases k <;> rfl
  | k, .int i, _ => by cases k <;> rfl
  | k, .str s, h => by
    have hs : strOk s = true := by cases k <;> exact h
    cases k <;> simp [den, hs]
  | 0, .lst _, h => by cases h
  | 0, .tup _, h => by cases h
  | k + 1, .lst xs, h => by
    simp only [den]
    rw [if_pos (pur_len h), densW_pur k xs (pur_in h)]
    rfl
  | k + 1, .tup xs, h => by
    simp only [den]
    rw [if_pos (pur_len h), densW_pur k xs (pur_in h)]
    rfl
  | k, .dic _ _, h => by cases k <;> cases h
  | k, .ref _, h => by cases k <;> cases h
  | k, .scr, h => by cases k <;> cases h
  | k, .clo _ _ _, h => by cases k <;> cases h
theorem densW_pur {cs : Cs} : ∀ (k : Nat) (xs : List D), purs k xs = true → densW (den cs k) xs = some xs
  | _, [], _ => rfl
  | k, x :: xs, h => by
    have h : (pur k x && purs k xs) = true := h
    rw [Bool.and_eq_true] at h
    unfold densW
    rw [den_pur k x h.1, densW_pur k xs h.2]
end
theorem spSR_e {k : Nat} {x y t : D} {cs : Cs} {Q : KD} {X : KX} (hx : den cs k x = some t) (hy : den cs k y = some t) (hQ : Q (.bl true) cs) : spSR (k + 1) [x, y] cs Q X := ⟨x, y, t, rfl, hx, hy, hQ⟩
theorem spSR_p {k : Nat} {x : D} {cs : Cs} {Q : KD} {X : KX} (hx : pur k x = true) (hQ : Q (.bl true) cs) : spSR (k + 1) [x, x] cs Q X := spSR_e (den_pur k x hx) (den_pur k x hx) hQ
open PySem PySem.Spec L2 in
theorem fnOk_zeroR {P : Program} {w : World} {K : PySem.W.Frag} {mg : PySem.Str → Option Value} {base : Heap} {f : Addr} {fd : FuncData} {ps : List PySem.Str} : FnOk P w K mg base (L2N.CX P w) 0 f fd ps (lift K mg (spSR 0)) := fnOk_false
end G

/-! GFind: the laws' own finds; strange nodes. -/
namespace G
open PySem (Str)
@[simp] theorem sListOfM_e {x : D} {cs : Cs} {Q : KD} {X : KX} : sListOfM [x] cs Q X = match getQ x cs with
    | some xs => ∀ n, cs n = none → Q (.ref n) (put cs n (.lst xs))
    | none => False := rfl
end G

namespace G
end G

/-! GErr: finds that may raise. -/
namespace G
open PySem (Str)
theorem pur_int {k : Nat} {i : Int} : pur k (.int i) = true := by cases k <;> rfl
theorem pur_str {k : Nat} {s : Str} (h : strOk s = true) : pur k (.str s) = true := by cases k <;> exact h
end G

/-! GAll: find_all that may raise; its result's list changed by the caller. -/
namespace G
open PySem (Str)
section
open PySem PySem.Spec L2
variable {P : Program} {w : World} {K : PySem.W.Frag} {mg : Str → Option Value} {base : Heap} {k : Nat} {f : Addr} {fd : FuncData} {ps : List Str} {sp : Spec}
end
end G

/-! GHlp: small rules for the laws. -/
namespace G
open PySem (Str)
end G

/-! GLcI: a comprehension over a list whose element may lean on what its maker's frame holds. -/
namespace G
open PySem PySem.Spec L2 PyProof.Rows
open Evl (Ex)
section
variable {X : Cx} {pins : List (Addr × Obj)} {σ : L2.St} {s : Shared} {H : Hp} {elt tg iter : Expr} {scope : Scope} {own : List (Str × Nat)} {pos : Pos} {g : TG} {te : TE} {D it : Addr} {fp : List Addr} {tn : Nat → Heap → Prop} {J : It} {Q : VK}
end
end G

/-! GAsks: [told(ask) for ask in asks]. -/
namespace G
open PySem PySem.Spec L2 PyProof.Rows
open Evl (Ex)
/-- an entry of a table of lambdas -/
structure LtE (X : Cx) (j : Nat) (t : LamT) (e : E) : Prop where
  n : LamN X.N X.env.scope t.scope
  b : LamBind t
  q : t.q = X.env.qual ++ "<lambda>"
  body : ∀ (A : Around) (outer : List Env) (s : Shared) (H : Hp) (EE : XK) (f c' : Addr), Ct (lamX X A outer s H EE t.scope f c') (wxOf EE) j → JE (lamX X A outer s H EE t.scope f c') (wxOf EE) t.body e
section
variable {X : Cx} {W : WX} {x y : Str} {i k j : Nat} {kf : Bool} {c1 c2 c3 : Value} {scope : Scope} {q1 q2 q3 : Pos}
end
end G

/-! GSortM: sorted(set(..)) as a cell. -/
namespace G
open PySem PySem.Spec L2
section
variable {X : Cx} {W : WX} {pos p p' q : Pos} {a : Expr} {ca : E}
end
end G

/-! GTop2: defs that hand over lists of lambdas. -/
namespace G
open PySem PySem.Spec L2 PyProof.Rows
section
variable {P : Program} {w : World} {K : PySem.W.Frag} {mg : Str → Option Value} {base : Heap} {x qual : Str} {params : Arguments} {body : List Stmt} {scope : Scope} {dvs : List V} {kws : List (Str × V)} {p : Str × Option Str} {fd : FuncData} {N ps : List Str} {k : Nat} {sp : Spec}
end
end G

namespace G
end G

/-! GDCompS: name = {k: v for ..} on one line, the name a local. -/
namespace G
open PySem PySem.Spec L2
section
variable {X : Cx}
end
end G

/-! GDComp: dict comprehensions. -/
namespace G
open PySem PySem.Spec L2
open Evl (Ex)
section
variable {X : Cx} {W : WX} {pos : Pos} {cc ck cv : E}
end
end G

/-! GMaxV: max(d.values(), default=i). -/
namespace L2
open PySem PySem.Spec PyProof.Rows
section
variable {X : Cx} {o : Expr} {p pos apos mpos cpos kpos : Pos} {td : TE} {i : Int} {jk : Nat}
end
end L2
namespace G
open PySem PySem.Spec L2
open Evl (Ex)
section
variable {X : Cx} {W : WX} {o a b : Expr} {p pos apos mpos cpos kpos : Pos} {co ca cb : E} {i : Int} {jk : Nat}
end
end G

/-! GObjL: instances of own classes over the layer: attribute targets; methods and makers where what is raised is wished for at the caller's slots. -/
namespace L2
open PySem PySem.Spec PyProof.Rows
section
variable {X : Cx} {CX : CXT} {k : Nat} {f C : Addr} {fd : FuncData} {ps ks : List Str} {sp : Sp} {dvs : List V} {ds : List Value} {E : St → XK} {x m : Str} {p pos apos : Pos} {e o : Expr} {es : List Expr} {kws : List Keyword} {ta : TE} {t tk : TA}
end
end L2

/-! GObj: instances of own classes as cells: made, attributes read and written, methods. -/
namespace G
open PySem PySem.Spec L2
abbrev Fs := List (Str × D)
def setF (f : Str) (d : D) : Fs → Fs
  | [] => [(f, d)]
  | (g, x) :: r => if g = f then (g, d) :: r else (g, x) :: setF f d r
/-- the attributes of an instance -/
structure InsR (K : PySem.W.Frag) (wd : Wd) (fs : Fs) (gs : List (Str × V)) : Prop where
  ks : gs.map (·.1) = fs.map (·.1)
  vs : RpL K wd (fs.map (·.2)) (gs.map (·.2))
section
variable {K : PySem.W.Frag} {wd wd' : Wd} {F H : Hp} {cs : Cs}
theorem InsR.nil : InsR K wd [] [] := ⟨rfl, rfl⟩
theorem InsR.cons {f : Str} {d : D} {v : V} {fs : Fs} {gs : List (Str × V)} (r : Rp K wd d v) (h : InsR K wd fs gs) : InsR K wd ((f, d) :: fs) ((f, v) :: gs) := ⟨by rw [List.map_cons, List.map_cons, h.ks], v, _, rfl, r, h.vs⟩
theorem InsR.inv {f : Str} {d : D} {fs : Fs} {gs : List (Str × V)} (h : InsR K wd ((f, d) :: fs) gs) : ∃ v gs', gs = (f, v) :: gs' ∧ Rp K wd d v ∧ InsR K wd fs gs' := by
  obtain ⟨v, r, e, h1, h2⟩ := h.vs
  have k := h.ks
  match gs, e, k with
  | (g, x) :: gs', e, k =>
    rw [List.map_cons, List.map_cons, List.cons.injEq] at k
    rw [List.map_cons, List.cons.injEq] at e
    obtain ⟨e1, e2⟩ := e
    obtain ⟨k1, k2⟩ := k
    dsimp only at e1 k1
    subst e1 k1
    exact ⟨_, gs', rfl, h1, k2, by rw [e2]; exact h2⟩
  | [], e, _ => cases e
theorem InsR.inv0 {gs : List (Str × V)} (h : InsR K wd [] gs) : gs = [] := List.map_eq_nil_iff.mp h.ks
theorem InsR.mono (l : wd.le wd') {fs : Fs} {gs : List (Str × V)} (h : InsR K wd fs gs) : InsR K wd' fs gs := ⟨h.ks, RpL.mono l _ _ h.vs⟩
theorem InsR.get {f : Str} {d : D} : ∀ {fs : Fs} {gs : List (Str × V)}, InsR K wd fs gs → fs.lookup f = some d → ∃ v, gs.lookup f = some v ∧ Rp K wd d v
  | [], _, _, e => by cases e
  | (g, x) :: fs, gs, h, e => by
    obtain ⟨v, gs', rfl, r, h'⟩ := h.inv
    rw [List.lookup_cons] at e ⊢
    cases q : f == g with
    | true =>
      rw [q] at e
      cases e
      exact ⟨v, rfl, r⟩
    | false =>
      rw [q] at e
      exact h'.get e
theorem InsR.none {f : Str} : ∀ {fs : Fs} {gs : List (Str × V)}, InsR K wd fs gs → fs.lookup f = none → gs.lookup f = none
  | [], gs, h, _ => by rw [h.inv0]; rfl
  | (g, x) :: fs, gs, h, e => by
    obtain ⟨v, gs', rfl, r, h'⟩ := h.inv
    rw [List.lookup_cons] at e ⊢
    cases q : f == g with
    | true =>
      rw [q] at e
      cases e
    | false =>
      rw [q] at e
      exact h'.none e
theorem InsR.put {f : Str} {d : D} {v : V} : ∀ {fs : Fs} {gs : List (Str × V)}, InsR K wd fs gs → Rp K wd d v → InsR K wd (setF f d fs) (putF f v gs)
  | [], gs, h, r => by
    rw [h.inv0]
    exact .cons r .nil
  | (g, x) :: fs, gs, h, r => by
    obtain ⟨w, gs', rfl, r', h'⟩ := h.inv
    unfold setF putF
    by_cases q : g = f
    · rw [if_pos q, if_pos q]
      exact .cons r h'
    · rw [if_neg q, if_neg q]
      exact .cons r' (h'.put r)
theorem InsR.len {fs : Fs} {gs : List (Str × V)} (h : InsR K wd fs gs) : gs.length = fs.length := by
  have := congrArg List.length h.ks
  simpa using this
end
/-! ### operations -/
/-- a method: level, number of parameters with self, promise -/
structure FnM (P : Program) (w : World) (K : PySem.W.Frag) (mg : Str → Option Value) (base : Heap) (C : Addr) (m : Str) (k n : Nat) (sp : Spec) : Prop where
  ex : ∃ f fd ps, ps.length = n ∧ Cls K C ∧ Meth K C m f ∧ FnOk P w K mg base (L2N.CX P w) k f fd ps (lift K mg sp) ∧ Binds K fd ps []
/-- a class: the level of its __init__, its number of parameters with self, its promise -/
structure FnI (P : Program) (w : World) (K : PySem.W.Frag) (mg : Str → Option Value) (base : Heap) (x : Str) (C : Addr) (k n : Nat) (sp : Spec) : Prop where
  ex : ∃ f fd ps, ps.length = n ∧ mg x = some (.ref C) ∧ Mk K C f ∧ FnOk P w K mg base (L2N.CX P w) k f fd ps (lift K mg sp) ∧ Binds K fd ps []
section
variable {X : Cx} {W : WX} {pos p apos : Pos} {e o value : Expr} {es : List Expr} {ces : Es} {co cv : E} {sp : Spec} {x f m : Str} {k n : Nat} {C : Addr}
end
end G

/-! GEq: the weakest preconditions one step at a time. -/
namespace G
theorem wpE_v {i : Nat} {σ : Sl} {cs : Cs} {Q : KD} {X : KX} : wpE (.v i) σ cs Q X = match getV σ i with
    | some d => Q d cs
    | none => False := by first | (rw [wpE]; cases getV σ i <;> rfl) | rw [wpE]
theorem wpE_c {d : D} {σ : Sl} {cs : Cs} {Q : KD} {X : KX} : wpE (.c d) σ cs Q X = Q d cs := by rw [wpE]
theorem wpE_app {sp : Spec} {as : Es} {σ : Sl} {cs : Cs} {Q : KD} {X : KX} : wpE (.app sp as) σ cs Q X = wpEs as σ cs (fun ds cs' => sp ds cs' Q X) X := by rw [wpE]
theorem wpEs_nil {σ : Sl} {cs : Cs} {Q : List D → Cs → Prop} {X : KX} : wpEs .nil σ cs Q X = Q [] cs := by rw [wpEs]
theorem wpEs_cons {e : E} {es : Es} {σ : Sl} {cs : Cs} {Q : List D → Cs → Prop} {X : KX} : wpEs (.cons e es) σ cs Q X = wpE e σ cs (fun d c1 => wpEs es σ c1 (fun ds c2 => Q (d :: ds) c2) X) X := by rw [wpEs]
end G

/-! GObjK: methods and makers called with keywords; attributes assigned two or three at once. -/
namespace G
open PySem PySem.Spec L2
open Evl (Ex)
/-- a method called with n values (self among them) and the keywords ks -/
structure FnMK (P : Program) (w : World) (K : PySem.W.Frag) (mg : Str → Option Value) (base : Heap) (C : Addr) (m : Str) (k n : Nat) (ks : List Str) (ix : List Nat) (sp : Spec) : Prop where
  ex : ∃ f fd ps, Cls K C ∧ Meth K C m f ∧ FnOk P w K mg base (L2N.CX P w) k f fd ps (lift K mg sp) ∧
    ∀ (s : Shared) (us ws : List Value), us.length = n → ws.length = ks.length → BindsTo s fd ⟨us, ks.zip ws⟩ (ps.zip (permL ix (us ++ ws)))
/-- a class made with n values and the keywords ks -/
structure FnIK (P : Program) (w : World) (K : PySem.W.Frag) (mg : Str → Option Value) (base : Heap) (x : Str) (C : Addr) (k n : Nat) (ks : List Str) (ix : List Nat) (sp : Spec) : Prop where
  ex : ∃ f fd ps, mg x = some (.ref C) ∧ Mk K C f ∧ FnOk P w K mg base (L2N.CX P w) k f fd ps (lift K mg sp) ∧
    ∀ (s : Shared) (u : Value) (us ws : List Value), us.length = n → ws.length = ks.length → BindsTo s fd ⟨u :: us, ks.zip ws⟩ (ps.zip (u :: permL ix (us ++ ws)))
section
variable {X : Cx} {W : WX} {pos p apos : Pos} {e o value : Expr} {es : List Expr} {kws : List Keyword} {ces cks : Es} {co cv : E} {sp : Spec} {x f m : Str} {k n : Nat} {C : Addr} {ks : List Str} {ix : List Nat}
end
end G

/-! GObjS: two or three attributes assigned from a tuple. -/
namespace G
open PySem PySem.Spec L2
section
variable {X : Cx} {W : WX} {pos p1 p2 p3 q1 q2 q3 tp : Pos} {value : Expr} {cv : E} {x f g h : Str} {i kk : Nat} {C : Addr}
end
end G

/-! GRing: following parents in any table of parents; rings. -/
namespace G
def itr (q : List Nat) : Nat → Nat → Nat
  | 0, i => i
  | n + 1, i => itr q n (par q i)
def ldB (q : List Nat) : Nat → Nat → Bool
  | 0, _ => false
  | n + 1, i => if par q i = i then true else ldB q n (par q i)
theorem itr_succ {q : List Nat} : ∀ (n i : Nat), itr q (n + 1) i = par q (itr q n i)
  | 0, i => rfl
  | n + 1, i => itr_succ n (par q i)
theorem itr_add {q : List Nat} : ∀ (a b i : Nat), itr q (a + b) i = itr q b (itr q a i)
  | 0, b, i => by rw [Nat.zero_add]; rfl
  | a + 1, b, i => by
    rw [show a + 1 + b = (a + b) + 1 by omega]
    exact itr_add a b (par q i)
theorem itr_root {q : List Nat} {i : Nat} (h : par q i = i) : ∀ n, itr q n i = i
  | 0 => rfl
  | n + 1 => by
    show itr q n (par q i) = i
    rw [h]
    exact itr_root h n
theorem itr_lt {q : List Nat} (h : ∀ i, i < q.length → par q i < q.length) : ∀ (n i : Nat), i < q.length → itr q n i < q.length
  | 0, _, hi => hi
  | n + 1, i, hi => itr_lt h n (par q i) (h i hi)
theorem ldB_iff {q : List Nat} : ∀ (n i : Nat), ldB q n i = true ↔ ∃ s, s < n ∧ par q (itr q s i) = itr q s i
  | 0, i => by simp [ldB]
  | n + 1, i => by
    unfold ldB
    by_cases e : par q i = i
    · rw [if_pos e]
      exact ⟨fun _ => ⟨0, Nat.succ_pos n, e⟩, fun _ => rfl⟩
    · rw [if_neg e, ldB_iff n (par q i)]
      constructor
      · rintro ⟨s, hs, h⟩
        exact ⟨s + 1, by omega, h⟩
      · rintro ⟨s, hs, h⟩
        cases s with
        | zero => exact absurd h e
        | succ s => exact ⟨s, by omega, h⟩
theorem pigeon {n : Nat} (f : Nat → Nat) (h : ∀ a, a ≤ n → f a < n) : ∃ a b, a < b ∧ b ≤ n ∧ f a = f b := by
  apply Classical.byContradiction
  intro hc
  have nd : ((List.range (n + 1)).map f).Nodup := by
    rw [List.Nodup, List.pairwise_iff_getElem]
    intro i j hi hj hij e
    simp only [List.length_map, List.length_range] at hi hj
    simp only [List.getElem_map, List.getElem_range] at e
    exact hc ⟨i, j, hij, by omega, e⟩
  have z := nodup_len n (((List.range (n + 1)).map f).map fun k : Nat => (k : Int)) (nd.map (fun k : Nat => (k : Int)) (fun x y h z => h (by omega))) fun k hk => by
    obtain ⟨j, hj, e⟩ := List.mem_map.mp hk
    obtain ⟨a, ha, e2⟩ := List.mem_map.mp hj
    have := h a (by have := List.mem_range.mp ha; omega)
    omega
  simp at z
  omega
theorem ring_iff {q : List Nat} (h : ∀ i, i < q.length → par q i < q.length) {i : Nat} (hi : i < q.length) : ldB q q.length i = true ↔ par q (itr q q.length i) = itr q q.length i := by
  rw [ldB_iff]
  constructor
  · rintro ⟨s, hs, e⟩
    have e2 : itr q q.length i = itr q s i := by
      rw [show q.length = s + (q.length - s) by omega, itr_add]
      exact itr_root e _
    rw [e2]
    exact e
  · intro e
    obtain ⟨a, b, hab, hb, ef⟩ := pigeon (n := q.length) (fun s => itr q s i) fun s hs => itr_lt h s i hi
    have ef : itr q a i = itr q b i := ef
    have e2 : itr q q.length i = itr q (q.length - (b - a)) i := by
      rw [show q.length = b + (q.length - b) by omega, itr_add, ← ef, ← itr_add]
      congr 1
      omega
    exact ⟨q.length - (b - a), by omega, by rw [← e2]; exact e⟩
theorem no_fil {f : Nat → Bool} {n : Nat} (h : ∀ m, m < n → f m = false) : (List.range n).filter f = [] := by
  rw [List.filter_eq_nil_iff]
  intro m hm
  rw [h m (List.mem_range.mp hm)]
  simp
end G

/-! GIsF: is_forest. -/
namespace G
def iDs (xs : List Int) : List D := xs.map D.int
def gi (xs : List Int) (i : Nat) : Int := xs.getD i 0
theorem gi_get {xs : List Int} {i : Nat} (hi : i < xs.length) : gi xs i = xs[i] := by
  unfold gi
  rw [List.getD_eq_getElem?_getD, List.getElem?_eq_getElem hi]
  rfl
theorem ldB_s {q : List Nat} {n i : Nat} : ldB q (n + 1) i = if par q i = i then true else ldB q n (par q i) := rfl
def inR (xs : List Int) (i : Nat) : Bool := decide (0 ≤ gi xs i) && decide (gi xs i < xs.length)
def nats (xs : List Int) : List Nat := xs.map Int.toNat
def wide (xs : List Int) : List Nat := (List.range xs.length).filter fun i => !inR xs i
def rings (xs : List Int) : List Nat := (List.range xs.length).filter fun i => !ldB (nats xs) xs.length i
def chkE (xs : List Int) : Option (PySem.Str × PySem.Str × Int) := if xs.length > 40 then some ("TooManyNodes", "limit", 40) else match wide xs with
  | w :: _ => some ("BadParent", "node", (w : Nat))
  | [] => match rings xs with
    | r :: _ => some ("Cycle", "node", (r : Nat))
    | [] => none
def spIsF : Spec := fun ds cs Q _ => ∃ xs : List Int, ds = [.tup (iDs xs)] ∧ xs.length ≤ 1000 ∧ Q (.bl (chkE xs).isNone) cs
/-- all parents are nodes: the table as numbers -/
theorem all_in {xs : List Int} (h : wide xs = []) : iDs xs = nI (nats xs) ∧ (∀ i, i < (nats xs).length → par (nats xs) i < (nats xs).length) ∧ (nats xs).length = xs.length := by
  have hb : ∀ i, i < xs.length → 0 ≤ gi xs i ∧ gi xs i < xs.length := fun i hi => by
    have z := List.filter_eq_nil_iff.mp h i (List.mem_range.mpr hi)
    simp [inR] at z
    exact ⟨by omega, by omega⟩
  have ln : (nats xs).length = xs.length := by simp [nats]
  refine ⟨?_, fun i hi => ?_, ln⟩
  · apply List.ext_getElem?
    intro i
    by_cases hi : i < xs.length
    · have := hb i hi
      rw [gi_get hi] at this
      simp [iDs, nI, nats, hi]
      omega
    · rw [List.getElem?_eq_none (by simp [iDs]; omega), List.getElem?_eq_none (by simp [nI, nats]; omega)]
  · rw [ln] at hi ⊢
    have := hb i hi
    rw [gi_get hi] at this
    rw [par_get (by rw [ln]; exact hi)]
    simp [nats]
    omega
def spLead : Spec := fun ds cs Q _ => ∃ x q i, ds = [x, .int (i : Nat)] ∧ x = fD q ∧ (∀ i, i < q.length → par q i < q.length) ∧ i < q.length ∧ q.length ≤ 1000 ∧ Q (.bl (ldB q q.length i)) cs
theorem ok_lead : okFn 3 c_leads_to_root spLead := by
  rintro ds cs Q X ⟨x, q, i, rfl, rfl, hq, hi, hl, hQ⟩
  show wpS (.seq c_leads_to_root_4 c_leads_to_root_5) [some (fD q), some (.int (i : Nat)), none] cs _
  simp only [wpS]
  rw [c_leads_to_root_4]
  simp only [wpS, wpE, wpEs, getV, len_fD]
  refine rng1_inv (fun j σ c => c = cs ∧ ∃ k a, σ = [some (fD q), some (.int (k : Nat)), a] ∧ k < q.length ∧ j ≤ q.length ∧ ldB q q.length i = ldB q (q.length - j) k) (by omega) (by omega) ⟨rfl, i, _, rfl, hi, Nat.zero_le _, rfl⟩ ?_ ?_
  · rintro j σ c hj ⟨rfl, k, a, rfl, hk, hjl, he⟩ K' h1 h2 h3 h4 h5
    clear h2 h3 h5
    have hj : j < q.length := by omega
    have e1 : q.length - j = (q.length - (j + 1)) + 1 := by omega
    rw [e1, ldB_s] at he
    simp only [wpS, List.set]
    rw [c_leads_to_root_2]
    simp only [wpS, wpE, wpEs, getV, sIx_e, getQ_fD, ix_par hk, sEq_i]
    by_cases e : par q k = k
    · rw [if_pos e] at he
      have e' : ((par q k : Nat) : Int) = (k : Int) := by omega
      simp [e']
      rw [c_leads_to_root_1]
      simp
      rw [h4]
      rw [he] at hQ
      exact hQ
    · rw [if_neg e] at he
      have e' : ¬ ((par q k : Nat) : Int) = (k : Int) := by omega
      simp [e, e']
      rw [c_leads_to_root_3]
      simp [sIx_e, getQ_fD, ix_par hk]
      exact h1 _ _ ⟨rfl, _, _, rfl, hq k hk, hj, he⟩
  · rintro σ c ⟨rfl, k, a, rfl, hk, hjl, he⟩
    rw [c_leads_to_root_5]
    simp
    rw [show q.length - ((q.length : Nat) : Int).toNat = 0 by omega] at he
    rw [he] at hQ
    exact hQ
theorem iDs_len {xs : List Int} : (iDs xs).length = xs.length := by simp [iDs]
theorem asBools_map : ∀ bs : List Bool, asBools (bs.map D.bl) = some bs
  | [] => rfl
  | b :: r => by
    show (asBools (r.map D.bl)).map (b :: ·) = _
    rw [asBools_map r]
    rfl
theorem ok_isf : okFn 3 (c_is_forest spLead) spIsF := by
  rintro ds cs Q X ⟨xs, rfl, hl, hQ⟩
  show wpS (.seq (c_is_forest_2 spLead) (c_is_forest_3 spLead)) [some (.tup (iDs xs)), none, none] cs _
  have nostr : ∀ s, D.tup (iDs xs) ≠ .str s := fun s e => by cases e
  simp only [wpS]
  rw [c_is_forest_2]
  by_cases h40 : xs.length > 40
  · have e : (chkE xs).isNone = false := by unfold chkE; rw [if_pos h40]; rfl
    rw [e] at hQ
    have h40' : (40 : Int) < (xs.length : Nat) := by omega
    simp [sLen_e nostr, getQ, iDs_len, h40']
    rw [c_is_forest_1]
    simp
    exact hQ
  have e0 : chkE xs = match wide xs with
    | w :: _ => some ("BadParent", "node", ((w : Nat) : Int))
    | [] => match rings xs with
      | r :: _ => some ("Cycle", "node", ((r : Nat) : Int))
      | [] => none := by unfold chkE; rw [if_neg h40]
  have h40' : ¬ (40 : Int) < (xs.length : Nat) := by omega
  simp only [wpS, wpE, wpEs, getV]
  rw [sLen_e nostr]
  simp only [getQ, iDs_len, sGt_i, h40', decide_false]
  rw [if_neg Bool.false_ne_true]
  refine iSeq_e (.inr rfl) (compL_map (fun d => match d with
    | .int v => .bl (decide (0 ≤ v) && decide (v < xs.length))
    | d => d) trivial _ _ (fun d hd => ?_) (show _ ≤ 16777216 by simp [iDs_len]; omega) ?_)
  · obtain ⟨v, hv, e⟩ := List.mem_map.mp hd
    subst e
    refine ⟨_, rfl, fun K h => h, fun K hK => ?_⟩
    have hK : K (.bl (decide (0 ≤ v) && decide (v < xs.length))) cs := hK
    by_cases a0 : 0 ≤ v
    · by_cases a1 : v < xs.length
      · simp [wipe, a0, a1, sLen_e nostr, getQ, iDs_len] at hK ⊢
        exact hK
      · simp [wipe, a0, a1, sLen_e nostr, getQ, iDs_len] at hK ⊢
        exact hK
    · simp [wipe, a0] at hK ⊢
      exact hK
  rw [if_neg Bool.false_ne_true, List.nil_append]
  have em : (iDs xs).map (fun d => match d with
    | .int v => D.bl (decide (0 ≤ v) && decide (v < xs.length))
    | d => d) = (xs.map fun v : Int => decide (0 ≤ v) && decide (v < (xs.length : Int))).map D.bl := by
    unfold iDs
    rw [List.map_map, List.map_map]
    rfl
  rw [em, sAll_e]
  simp only [getL, asBools_map]
  have ea : ((xs.map fun v : Int => decide (0 ≤ v) && decide (v < (xs.length : Int))).all id) = (wide xs).isEmpty := by
    rw [Bool.eq_iff_iff, List.isEmpty_iff, List.all_eq_true]
    unfold wide
    rw [List.filter_eq_nil_iff]
    constructor
    · intro h m hm
      have hm := List.mem_range.mp hm
      have z := h _ (List.mem_map.mpr ⟨gi xs m, by rw [gi_get hm]; exact List.getElem_mem hm, rfl⟩)
      simp at z
      simp [inR, z]
    · intro h b hb
      obtain ⟨v, hv, e⟩ := List.mem_map.mp hb
      obtain ⟨m, hm, e2⟩ := List.getElem_of_mem hv
      have z := h m (List.mem_range.mpr hm)
      have e3 : gi xs m = v := by rw [gi_get hm]; exact e2
      unfold inR at z
      rw [e3] at z
      rw [← e]
      simpa using z
  rw [ea]
  cases ew : wide xs with
  | cons w r =>
    have e : (chkE xs).isNone = false := by rw [e0, ew]; rfl
    rw [e] at hQ
    simp
    rw [c_is_forest_1]
    simp
    exact hQ
  | nil =>
    obtain ⟨ed, hq, lq⟩ := all_in ew
    simp
    rw [c_is_forest_3]
    simp only [wpS, wpE, wpEs, getV]
    rw [sLen_e nostr]
    simp only [getQ, iDs_len]
    refine ⟨by omega, by omega, ?_⟩
    rw [rgD_nI]
    refine compL_map (fun d => match d with
      | .int v => .bl (ldB (nats xs) xs.length v.toNat)
      | d => d) trivial _ _ (fun d hd => ?_) (show _ ≤ 16777216 by simp; omega) ?_
    · obtain ⟨k, hk, ek⟩ := List.mem_map.mp hd
      subst ek
      have hk := List.mem_range.mp hk
      refine ⟨_, rfl, fun K h => h, fun K hK => ?_⟩
      simp only [wipe, List.set, getV]
      refine ⟨_, nats xs, k, rfl, by rw [ed]; rfl, hq, by omega, by omega, ?_⟩
      rw [lq]
      exact hK
    rw [if_neg Bool.false_ne_true, List.nil_append]
    have em2 : (nI (List.range xs.length)).map (fun d => match d with
      | .int v => D.bl (ldB (nats xs) xs.length v.toNat)
      | d => d) = ((List.range xs.length).map fun k => ldB (nats xs) xs.length k).map D.bl := by
      unfold nI
      rw [List.map_map, List.map_map]
      rfl
    rw [em2, sAll_e]
    simp only [getL, asBools_map]
    have er2 : (((List.range xs.length).map fun k => ldB (nats xs) xs.length k).all id) = (chkE xs).isNone := by
      rw [e0, ew]
      dsimp only
      cases er' : rings xs with
      | nil =>
        rw [Bool.eq_iff_iff]
        refine ⟨fun _ => rfl, fun _ => ?_⟩
        rw [List.all_eq_true]
        intro b hb
        obtain ⟨k, hk, e⟩ := List.mem_map.mp hb
        have z := List.filter_eq_nil_iff.mp er' k hk
        rw [← e]
        simpa using z
      | cons r rs =>
        have hr : r ∈ rings xs := by rw [er']; exact List.mem_cons_self
        obtain ⟨h1, h2⟩ := List.mem_filter.mp hr
        show _ = false
        rw [Bool.eq_false_iff]
        intro h
        have z := List.all_eq_true.mp h _ (List.mem_map.mpr ⟨r, h1, rfl⟩)
        rw [show id (ldB (nats xs) xs.length r) = ldB (nats xs) xs.length r from rfl] at z
        rw [z] at h2
        cases h2
    rw [er2]
    exact hQ
/-! ### forests as numbers -/
def ofN (q : List Nat) : List Int := q.map fun n : Nat => (n : Int)
theorem nats_of {q : List Nat} : nats (ofN q) = q := by
  unfold nats ofN
  rw [List.map_map]
  have : (Int.toNat ∘ fun n : Nat => (n : Int)) = id := funext fun n => by simp
  rw [this, List.map_id]
theorem ofN_len {q : List Nat} : (ofN q).length = q.length := by simp [ofN]
theorem gi_of {q : List Nat} {i : Nat} (hi : i < q.length) : gi (ofN q) i = (par q i : Nat) := by
  unfold gi ofN par
  rw [List.getD_eq_getElem?_getD, List.getElem?_map, List.getElem?_eq_getElem hi, List.getD_eq_getElem?_getD, List.getElem?_eq_getElem hi]
  rfl
def rk (q : List Nat) : Nat → Nat → Nat
  | 0, _ => 0
  | n + 1, i => if par q i = i then 0 else rk q n (par q i) + 1
theorem rk_lt {q : List Nat} : ∀ (n i : Nat), ldB q n i = true → rk q n i < n
  | 0, i, h => by simp [ldB] at h
  | n + 1, i, h => by
    rw [ldB_s] at h
    unfold rk
    by_cases e : par q i = i
    · rw [if_pos e]
      omega
    · rw [if_neg e] at h ⊢
      have := rk_lt n _ h
      omega
theorem rk_more {q : List Nat} : ∀ (n i : Nat), ldB q n i = true → rk q (n + 1) i = rk q n i
  | 0, i, h => by simp [ldB] at h
  | n + 1, i, h => by
    rw [ldB_s] at h
    show (if par q i = i then 0 else rk q (n + 1) (par q i) + 1) = if par q i = i then 0 else rk q n (par q i) + 1
    by_cases e : par q i = i
    · rw [if_pos e, if_pos e]
    · rw [if_neg e] at h ⊢
      rw [if_neg e, rk_more n _ h]
theorem fo_of_ld {q : List Nat} (h : ∀ i, i < q.length → par q i < q.length) (hl : ∀ i, i < q.length → ldB q q.length i = true) : FoOk q := by
  refine ⟨rk q q.length, fun i hi => ⟨h i hi, rk_lt _ _ (hl i hi), ?_⟩⟩
  by_cases e : par q i = i
  · exact .inl e
  · refine .inr ?_
    obtain ⟨n, en⟩ : ∃ n, q.length = n + 1 := ⟨q.length - 1, by omega⟩
    have a := hl i hi
    have b := hl _ (h i hi)
    rw [en] at a b ⊢
    rw [ldB_s, if_neg e] at a
    rw [rk_more n _ a]
    show _ < if par q i = i then 0 else rk q n (par q i) + 1
    rw [if_neg e]
    omega
theorem ld_of_fo {q : List Nat} (h : FoOk q) : ∀ i, i < q.length → ldB q q.length i = true := by
  obtain ⟨r, hr⟩ := h
  have go : ∀ n i, i < q.length → r i < n → ldB q n i = true := by
    intro n
    induction n with
    | zero => intro i _ h; omega
    | succ n ih =>
      intro i hi h
      rw [ldB_s]
      by_cases e : par q i = i
      · rw [if_pos e]
      · rw [if_neg e]
        obtain ⟨a, b, c⟩ := hr i hi
        exact ih _ a (by rcases c with c | c <;> omega)
  exact fun i hi => go _ i hi (hr i hi).2.1
theorem chkE_fo {q : List Nat} (hl : q.length ≤ 40) (h : ∀ i, i < q.length → par q i < q.length) : (chkE (ofN q)).isNone = true ↔ FoOk q := by
  have w : wide (ofN q) = [] := no_fil fun m hm => by
    rw [ofN_len] at hm
    have := h m hm
    unfold inR
    rw [gi_of hm, ofN_len, decide_eq_true (show (0 : Int) ≤ ((par q m : Nat) : Int) by omega), decide_eq_true (show ((par q m : Nat) : Int) < (q.length : Nat) by omega)]
    rfl
  unfold chkE
  rw [ofN_len, if_neg (by omega), w]
  dsimp only
  constructor
  · intro e
    cases er : rings (ofN q) with
    | cons r t =>
      rw [er] at e
      cases e
    | nil =>
      refine fo_of_ld h fun i hi => ?_
      cases z : ldB q q.length i with
      | true => rfl
      | false =>
        have : i ∈ rings (ofN q) := by
          unfold rings
          rw [List.mem_filter, List.mem_range, ofN_len, nats_of, z]
          exact ⟨hi, rfl⟩
        rw [er] at this
        cases this
  · intro f
    have er : rings (ofN q) = [] := no_fil fun m hm => by
      rw [ofN_len] at hm ⊢
      rw [nats_of, ld_of_fo f m hm]
      rfl
    rw [er]
    rfl
/-! ### all rows -/
end G

/-! GTbl: written dicts with text keys: whole numbers, defs; a def out of such a dict called. -/
namespace G
open PySem PySem.Spec L2 PyProof.Rows
def entV (r : Option Value) : Option (Sum Int Addr) → Prop
  | none => r = none
  | some (.inl i) => ∃ t, r = some (.int i t)
  | some (.inr a) => r = some (.ref a)
structure Tbl (K : PySem.W.Frag) (w : World) (d : Addr) (kvs : List (Str × Sum Int Addr)) : Prop where
  ex : ∃ es n, KDict K w d es n
  at_ : ∀ z, ∃ r, PySem.W.nsIn K d z = some r ∧ entV r (kvs.lookup z)
/-! ### the core's -/
section
variable {X : Cx} {W : WX} {pos p p1 p2 p3 p4 p5 apos cpos : Pos} {e f : Expr} {es : List Expr} {ce cf : E} {ces : Es} {T hn : Str} {d : Addr} {kvs : List (Str × Sum Int Addr)} {k : Nat}
/-! ### a def out of a table -/
structure FnAt (P : Program) (w : World) (K : PySem.W.Frag) (mg : Str → Option Value) (base : Heap) (k : Nat) (f : Addr) (sp : Sp) : Prop where
  ex : ∃ fd ps, FnOk P w K mg base (L2N.CX P w) k f fd ps sp ∧ PySem.W.keepIn K (.ref f) = true ∧ Binds K fd ps []
theorem Fn.at_ {P : Program} {w : World} {K : PySem.W.Frag} {mg : Str → Option Value} {base : Heap} {x : Str} {n j : Nat} {sp : Spec} {f : Addr} (F : Fn P w K mg base x j n sp) (h : j ≤ k) (hm : mg x = some (.ref f)) : FnAt P w K mg base k f (lift K mg sp) := by
  obtain ⟨f', fd, ps, _, hm', ok, kp, b⟩ := F.ex
  rw [hm] at hm'
  cases hm'
  exact ⟨fd, ps, ok.mono h, kp, b⟩
structure Dsp (P : Program) (w : World) (K : PySem.W.Frag) (mg : Str → Option Value) (base : Heap) (k : Nat) (kvs : List (Str × Sum Int Addr)) (tbl : List (Str × Spec)) : Prop where
  at_ : ∀ z sp, tbl.lookup z = some sp → ∃ f, kvs.lookup z = some (.inr f) ∧ FnAt P w K mg base k f (lift K mg sp)
theorem Dsp.nil {P : Program} {w : World} {K : PySem.W.Frag} {mg : Str → Option Value} {base : Heap} : Dsp P w K mg base k [] [] := ⟨fun z sp h => by cases h⟩
theorem Dsp.cons {P : Program} {w : World} {K : PySem.W.Frag} {mg : Str → Option Value} {base : Heap} {tbl : List (Str × Spec)} {sp : Spec} {g : Addr} {z : Str} (h : FnAt P w K mg base k g (lift K mg sp)) (r : Dsp P w K mg base k kvs tbl) : Dsp P w K mg base k ((z, .inr g) :: kvs) ((z, sp) :: tbl) := by
  refine ⟨fun y sp' e => ?_⟩
  rw [List.lookup_cons] at e ⊢
  by_cases q : y = z
  · subst q
    rw [beq_self_eq_true] at e ⊢
    cases e
    exact ⟨g, rfl, h⟩
  · rw [beq_false_of_ne q] at e ⊢
    exact r.at_ y sp' e
theorem RS.clr {K : PySem.W.Frag} {wd : Wd} {τ : Sl} {σ : L2.St} (h : RS K wd τ σ) (i : Nat) : RS K wd (τ.set i none) σ := h.drop (by simp) fun j d e => by
  rw [getV_eq] at e ⊢
  by_cases hj : i = j
  · subst hj
    by_cases hl : i < τ.length
    · rw [List.getElem?_set_self hl] at e
      cases e
    · rw [List.getElem?_eq_none (by simp; omega)] at e
      cases e
  · rwa [List.getElem?_set_ne hj] at e
section
variable {ta : TA} {tbl : List (Str × Spec)} {i : Nat} {a0 : Expr} {as : List Expr}
end
end
end G

/-! GDef: calls without arguments; calls that leave keyword-only defaults out. -/
namespace G
open PySem PySem.Spec L2 PyProof.Rows
section
variable {X : Cx} {W : WX} {pos p : Pos} {e : Expr} {es : List Expr} {ces : Es} {sp : Spec} {x : Str} {k n : Nat}
/-- a def whose keyword-only parameters are left out: its promise over the others -/
structure FnD (P : Program) (w : World) (K : PySem.W.Frag) (mg : Str → Option Value) (base : Heap) (x : Str) (k n : Nat) (sp : Spec) : Prop where
  ex : ∃ f fd ps spF dv vs ds, mg x = some (.ref f) ∧ FnOk P w K mg base (L2N.CX P w) k f fd ps (lift K mg spF) ∧ PySem.W.keepIn K (.ref f) = true ∧ Binds K fd ps ds ∧ Vals vs ds ∧ (∀ wd, RpL K wd dv vs) ∧ ∀ us cs Q PX, sp us cs Q PX → spF (us ++ dv) cs Q PX
end
section
variable {P : Program} {w : World} {K : PySem.W.Frag} {mg : Str → Option Value} {base : Heap} {x qual : Str} {params : Arguments} {body : List Stmt} {scope : Scope} {f : Addr} {fd : FuncData} {ps : List Str} {k n : Nat} {sp spF : Spec} {kws : List (Str × V)} {ks : List Str} {ix : List Nat}
end
end G

/-! GDict2: dict(pairs), dict(d), sorted(d), in, dict displays, equal dicts. -/
namespace G
open PySem PySem.Spec L2
open Evl (Ex)
theorem CallR.or {X : Cx} {f : Value} {r r' : List V → Hp → VK → Prop} (h : CallR X f r) (h' : CallR X f r') : CallR X f (fun xs H Q => r xs H Q ∨ r' xs H Q) := by
  intro pins s σ H xs us Q I rx q
  rcases q with q | q
  · exact h pins s σ H xs us Q I rx q
  · exact h' pins s σ H xs us Q I rx q
section
variable {X : Cx} {W : WX} {pos apos p : Pos} {o a e : Expr} {co ca ce : E}
theorem DicR.mem {K : PySem.W.Frag} {wd : Wd} : ∀ {l : DL} {kvs : List (Key × V)}, DicR K wd l kvs → ∀ q ∈ kvs, ∃ p ∈ l, p.1 = q.1 ∧ Rp K wd p.2 q.2
  | [], [], _, q, h => by cases h
  | p :: l, r :: kvs, d, q, h => by
    obtain ⟨a, b, c⟩ := d.cons_inv
    rcases List.mem_cons.mp h with e | h
    · subst e
      exact ⟨p, List.mem_cons_self, a, b⟩
    · obtain ⟨p', h1, h2⟩ := DicR.mem c q h
      exact ⟨p', List.mem_cons_of_mem _ h1, h2⟩
  | [], _ :: _, d, _, _ => by have := d.ks; simp at this
  | _ :: _, [], d, _, _ => by have := d.ks; simp at this
end
section
variable {P : Program} {w : World} {K : PySem.W.Frag} {mg : Str → Option Value} {base : Heap} {x qual : Str} {params : Arguments} {body : List Stmt} {scope : Scope} {f : Addr} {fd : FuncData} {ps : List Str} {k n : Nat} {sp spF : Spec}
end
end G

/-! GDin: x in d for dicts as cells. -/
namespace L2
open PySem PySem.Spec PyProof.Rows
end L2
namespace G
open PySem PySem.Spec L2
section
variable {X : Cx} {W : WX} {pos : Pos} {o a : Expr} {co ca : E}
end
end G

/-! GComp2: comprehensions of two clauses. -/
namespace G
open PySem PySem.Spec L2
open Evl (Ex)
section
variable {X : Cx} {W : WX} {pos : Pos} {ce : E}
end
end G

/-! GDT: dicts with tuples as keys; the items of a frozen dict. -/
namespace L2
open PySem PySem.Spec PyProof.Rows
section
variable {X : Cx} {pins : List (Addr × Obj)} {σ : St} {H : Hp} {s : Shared} {d : Addr} {o : Obj}
end
section
variable {P : Program} {w : World} {K : PySem.W.Frag} {d : Addr} {o : Obj} {es : Array DictEntry} {ep : Nat}
end
section
variable {X : Cx} {e : Expr} {td : TE} {apos cpos : Pos}
end
end L2
namespace G
open PySem PySem.Spec L2
open Evl (Ex)
/-! ### the items of a frozen dict -/
section
variable {X : Cx} {W : WX} {e : Expr} {ce : E} {apos cpos : Pos} {elts : List Expr} {kk : Nat} {tpos : Pos}
end
end G

/-! GSeal: dicts that nobody changes any more, as trees. -/
namespace G
open PySem PySem.Spec L2
open Evl (Ex)
section
variable {K : PySem.W.Frag} {wd : Wd} {F H : Hp} {cs : Cs}
end
section
variable {X : Cx} {W : WX} {sts : List Stmt} {s : S}
end
/-! ### operations -/
section
variable {X : Cx} {W : WX} {pos apos cpos p : Pos} {o i e f value : Expr} {co ci ce cf cv : E}
theorem DGet.s {H : Hp} {a : Addr} {o : Obj} {kvs : List (Key × V)} {k : Key} (e : H a = some (.frz o (.dK kvs))) : DGet H a (kV k) (valV kvs k) := .inl ⟨kvs, k, .inr ⟨o, e⟩, rfl, rfl⟩
end
section
variable {X : Cx} {W : WX} {apos cpos tpos : Pos} {e tg : Expr} {ce : E} {elts : List Expr} {kk : Nat}
end
end G

/-! GObjT: instances without arguments; an attribute beside a name as targets; o.f += i; del d[k]; a, *b = a tuple; texts of the module. -/
namespace G
open PySem PySem.Spec L2
open Evl (Ex)
def dropA (l : DL) (k : Key) : DL := l.filter fun p => decide (p.1 ≠ k)
section
variable {X : Cx} {W : WX} {pos p p1 p2 q1 tp apos tpos : Pos} {e o i value : Expr} {co ci cv ce : E} {x y f : Str} {k n : Nat} {C : Addr} {sp : Spec}
theorem DicR.drop {K : PySem.W.Frag} {wd : Wd} {l : DL} {kvs : List (Key × V)} {k : Key} (h : DicR K wd l kvs) : DicR K wd (dropA l k) (dropK kvs k) := by
  refine DicR.ind (M := fun l kvs => DicR K wd (dropA l k) (dropK kvs k)) DicR.nil ?_ h
  intro p l q kvs h1 h2 _ ih
  unfold dropA dropK at ih ⊢
  by_cases y : p.1 = k
  · rw [List.filter_cons_of_neg (by simpa using y), List.filter_cons_of_neg (by simpa using h1.symm.trans y)]
    exact ih
  · rw [List.filter_cons_of_pos (by simpa using y), List.filter_cons_of_pos (by simpa using fun z => y (h1.trans z))]
    exact DicR.cons h1 h2 ih
theorem j_gstr {x z : Str} (hg : Gl X x) (hm : ∃ t, X.mg x = some (.str z t)) (hd : (x == ("__debug__" : Str)) = false := by decide) : JE X W (.Name x pos) (.c (.str z)) := by
  obtain ⟨t, hm⟩ := hm
  exact j_glob (v := .str z) hg hm ⟨t, rfl⟩ (fun _ => rfl) hd
end
end G

/-! GStarT: a, *b, c = a tuple. -/
namespace G
open PySem PySem.Spec L2
open Evl (Ex)
section
variable {P : Program} {w : World} {A : Around} {E : Value → Shared → Prop} {s : Shared}
end
section
variable {X : Cx} {W : WX} {pos p p' : Pos} {e tg : Expr} {ce : E} {tgs elts : List Expr} {pt : Pat} {own : List Nat} {n i k : Nat}
end
end G

/-! GEqN: xs == [], whatever the list holds. -/
namespace G
open PySem PySem.Spec L2
section
variable {X : Cx} {W : WX} {pos : Pos} {a b : Expr} {ca cb : E}
end
end G

/-! GFin: try: body / finally: suite, where errors (whose context is None) may leave the body. -/
namespace L2F
open PySem PySem.Spec PyProof.Rows L2 L2N
section
variable {X : Cx} {pins : List (Addr × Obj)} {σ : L2.St} {H : Hp} {s : Shared} {D : L2.Ends} {Wo : WX} {a T : Addr} {oe oT : Obj} {vs ts : Array Value} {cls : Value} {d : Option Addr}
end
end L2F

/-! GFinJ: try: .. finally: .. in the core. -/
namespace G
open PySem PySem.Spec L2
section
variable {X : Cx} {W : WX} {body : List Stmt} {f₀ : Stmt} {fs sts : List Stmt} {pos : Pos} {ca cb c : S} {pn : List (Addr × Obj)} {xe : Value → Shared → Prop} {a : Addr} {k : Nat}
theorem Ct.tr (C : Ct X W k) {W' : WX} (tk : L2N.Takes (X.tr pn xe) W') (po : PassesOwn (model X.prog X.w) X.A X.env xe) : Ct (X.tr pn xe) W' k := ⟨C.hc, C.hN, po, tk, C.hr⟩
end
end G

/-! GRg2: tuple(range(a, b)). -/
namespace G
open PySem PySem.Spec L2
section
variable {X : Cx} {W : WX} {pos p : Pos} {a b : Expr} {ca cb : E}
end
end G

/-! GItems: sorted(d.items()) of a dict with rising int keys. -/
namespace SrtI
open PySem PySem.Spec PyProof.Rows L2 SrtO Srt
def IsPk (h : Heap) (v : Value) (x : Int) : Prop := ∃ a o t u n, v = .ref a ∧ h.get? a = some o ∧ o.cls = .type "tuple" ∧ o.data = .seq #[.int x t, u] n
theorem IsPk.keeps {h h' : Heap} {v : Value} {x : Int} (p : IsPk h v x) (k : ∀ b o, h.get? b = some o → o.cls = .type "tuple" → h'.get? b = some o) : IsPk h' v x := by
  obtain ⟨a, o, t, u, n, e, ho, hc, hd⟩ := p
  exact ⟨a, o, t, u, n, e, k _ _ ho hc, hc, hd⟩
section
variable {prog : Program} {w : World} {A : Around} {E : Value → Shared → Prop} {s : Shared}
end
section
variable {X : Cx} {e : Expr} {te : TE} {p apos cpos pos : Pos}
end
end SrtI
namespace G
open PySem PySem.Spec L2
open Evl (Ex)
section
variable {X : Cx} {W : WX} {pos apos cpos p : Pos} {e : Expr} {ce : E}
end
end G

/-! GLenC: the length of a dict that is a cell. -/
namespace G
open PySem PySem.Spec L2
section
variable {X : Cx} {W : WX} {pos p : Pos} {e : Expr} {ce : E}
end
end G

/-! GFmt: f-strings of texts and whole numbers, of two parts or more. -/
namespace G
open PySem PySem.Spec L2
section
variable {X : Cx} {W : WX} {pos : Pos} {e : Expr} {ce : E}
/-- the parts of an f-string -/
inductive JP (X : Cx) (W : WX) : List Expr → List TE → List E → Prop where
  | nil : JP X W [] [] []
  | cons {e : Expr} {t : TE} {c : E} {es : List Expr} {ts : List TE} {cs : List E} (h : PE X e t) (r : RefE X W t c) (k : JP X W es ts cs) : JP X W (e :: es) (t :: ts) (c :: cs)
end
end G

/-! GEqS: == of two sealed dicts whose values are plain data. -/
namespace G
open PySem PySem.Spec L2
inductive Kq (K : PySem.W.Frag) (H : Hp) (ls : List (Key × V)) : List (Key × V) → Bool → Prop
  | nil : Kq K H ls [] true
  | miss {k : Key} {v : V} {r : List (Key × V)} : valV ls k = none → Kq K H ls ((k, v) :: r) false
  | hit {k : Key} {v u : V} {r : List (Key × V)} {d e : PyData} {b : Bool} : valV ls k = some u → Dp K H v d → Dp K H u e → SeqAt.shaped d = true → SeqAt.shaped e = true → Kq K H ls r b → Kq K H ls ((k, v) :: r) (PyData.eqv d e && b)
section
variable {X : Cx} {pins : List (Addr × Obj)} {σ : L2.St} {H : Hp} {s : Shared}
end
section
variable {X : Cx} {W : WX} {pos : Pos} {a b : Expr} {ca cb : E}
end
end G

/-! GIsO: isinstance(x, C) for an instance x of the own class C. -/
namespace G
open PySem PySem.Spec L2
/-- what isinstance wants of a class, beyond Cls -/
structure IsO (K : PySem.W.Frag) (C : Addr) : Prop where
  ha : PySem.W.findIn K (.ref C) "__class__" = some (some (.builtin "object.__class__"))
  hn : PySem.W.specialIn K (.builtin "object.__class__") "__get__" = some (some (.builtin "getset_descriptor.__get__"))
  htk : PySem.W.takesIn K (.builtin "object.__class__") = some true
  hm : PySem.W.mroIn K C (.type "object") = some true
section
variable {X : Cx} {W : WX} {pos p : Pos} {a : Expr} {ca : E} {C : Addr}
end
end G

namespace G
end G

/-! GSortQ: sorted(set(t)) for a tuple of whole numbers. -/
namespace G
open PySem PySem.Spec L2
section
variable {X : Cx} {W : WX} {pos p p' q : Pos} {a b e : Expr} {ca cb ce : E} {K : PySem.W.Frag}
end
end G

/-! GEndG: the law's end where the law itself knows that nothing is being shown (no repr is under way). -/
namespace G
open PySem PySem.Spec PyProof.Rows L2
/-- a def's promise in places where no repr is under way -/
structure FnOkG (P : Program) (w : World) (K : PySem.W.Frag) (mg : Str → Option Value) (base : Heap) (CX : CXT) (k : Nat) (f : Addr) (fd : FuncData) (ps : List Str) (sp : Sp) : Prop where
  run : ∀ (A : Around), A.guards = some [] → ∀ (outer : List Env) (s : Shared) (H : Hp) (args : Args) (us : List Value) (vs : List V) (Q : VK) (E : XK), Room k A → Env0 P w K mg base A outer s H →
    BindsTo s fd args (ps.zip us) → Vals vs us → sp vs H Q E → codeAny (model P w) A (.call (.ref f) args) (CR CX outer P w H s Q E) s
section
variable {P : Program} {w : World} {K : PySem.W.Frag} {mg : Str → Option Value} {base : Heap} {CX : CXT} {k : Nat} {x qual : Str} {params : Arguments} {body : List Stmt} {scope : Scope} {fd : FuncData} {dvs : List V} {kws : List (Str × V)} {N ps : List Str}
theorem FnOkG.of {f : Addr} {sp : Sp} (F : FnOk P w K mg base CX k f fd ps sp) : FnOkG P w K mg base CX k f fd ps sp := ⟨fun A _ => F.run A⟩
end
/-! ### the law's call -/
/-- what the abstract heap at the start hides: the script and the tables, nothing else -/
structure StartH (K : PySem.W.Frag) (s : Shared) (a : Addr) (T : List Addr) (H : Hp) : Prop where
  tb : ∀ b ∈ T, H b = some (.tbl #[])
  ok : ∀ b, H b = none ∨ b ∈ T ∨ ∃ o xs, H b = some (.frz o (.lst xs))
  at_ : ∀ b, H b ≠ none → b = a ∨ b ∈ T
  lk : H a ≠ none → K.lookup a = none
section
variable {P : Program} {w : World} {K : PySem.W.Frag} {mg mb : Str → Option Value} {CX : CXT} {k : Nat} {fa a : Addr} {cs : List (Addr × Addr)} {fd : FuncData} {x : Str} {sp : Sp} {s₁ : Shared} {vs : List Value} {ns : List Int}
end
end G

/-! GRepr: repr of lists and tuples. -/
namespace G
open PySem PySem.Spec L2
open Evl (Ex)
section
variable {X : Cx} {W : WX} {pos p : Pos} {e : Expr} {ce : E} {K : PySem.W.Frag}
end
/-! ### what is shown is short and valid -/
end G

/-! GObjO: len(o) and repr(o) of an instance of an own class with its own __len__ and __repr__, which raise nothing. -/
namespace L2
open PySem PySem.Spec PyProof.Rows
section
variable {X : Cx} {k : Nat} {f a C : Addr} {fd : FuncData} {ps : List Str} {sp : Sp} {pins : List (Addr × Obj)} {σ : St} {H : Hp} {s : Shared}
end
end L2
namespace G
open PySem PySem.Spec L2
section
variable {X : Cx} {W : WX} {pos p : Pos} {e : Expr} {ce : E} {sp : Spec} {k n : Nat} {C : Addr} {K : PySem.W.Frag} {mg : Str → Option Value}
end
end G

/-! GObjQ: o == u of two instances of one own class by its own __eq__, which raises nothing: True or False. -/
namespace L2
open PySem PySem.Spec PyProof.Rows
section
variable {X : Cx} {k : Nat} {f a b C : Addr} {fd : FuncData} {ps : List Str} {sp : Sp} {pins : List (Addr × Obj)} {σ : St} {H : Hp} {s : Shared}
end
end L2
namespace G
open PySem PySem.Spec L2
section
variable {X : Cx} {W : WX} {pos : Pos} {a b : Expr} {ca cb : E} {sp : Spec} {k n : Nat} {C : Addr} {K : PySem.W.Frag} {mg : Str → Option Value}
end
end G

/-! GObjN: o != u of two instances of one own class that has its own __eq__ and no __ne__. -/
namespace L2
open PySem PySem.Spec PyProof.Rows PySem.W
/-- what != wants of a class: __ne__ is the one of object -/
structure NeO (K : PySem.W.Frag) (C : Addr) : Prop where
  hf : PySem.W.findIn K (.ref C) "__ne__" = some (some (.builtin "object.__ne__"))
  hm : PySem.W.mroIn K C (.type "object") = some true
section
variable {prog : Program} {w : World} {A : Around} {E : Value → Shared → Prop} {s : Shared} {K : PySem.W.Frag} {x y C f : Addr} {h₀ : Heap} {m : Str → Option Value} {ox : Obj} {od : Option Obj}
open PySem.Builtin
end
section
variable {X : Cx} {k : Nat} {f a b C : Addr} {fd : FuncData} {ps : List Str} {sp : Sp} {pins : List (Addr × Obj)} {σ : St} {H : Hp} {s : Shared}
end
end L2
namespace G
open PySem PySem.Spec L2
section
variable {X : Cx} {W : WX} {pos : Pos} {a b : Expr} {ca cb : E} {sp : Spec} {k n : Nat} {C : Addr} {K : PySem.W.Frag} {mg : Str → Option Value}
end
end G

/-! GRvm: list.reverse. -/
namespace G
open PySem PySem.Spec L2
open Evl (Ex)
section
variable {X : Cx} {W : WX} {pos apos : Pos} {o : Expr} {co : E}
end
end G

/-! GObjD: a method with a keyword that is left out. -/
namespace L2
open PySem PySem.Spec PyProof.Rows
section
variable {X : Cx} {CX : CXT} {k : Nat} {f C : Addr} {fd : FuncData} {ps ks : List Str} {sp : Sp} {dvs : List V} {ds : List Value} {E : St → XK} {x m : Str} {p pos apos : Pos} {e o : Expr} {es : List Expr} {ta : TE} {t : TA}
end
end L2
namespace G
open PySem PySem.Spec L2
/-- a method, its last keyword left out -/
structure FnMD (P : Program) (w : World) (K : PySem.W.Frag) (mg : Str → Option Value) (base : Heap) (C : Addr) (m : Str) (k n : Nat) (sp : Spec) : Prop where
  ex : ∃ f fd ps spF dv vs ds, Cls K C ∧ Meth K C m f ∧ FnOk P w K mg base (L2N.CX P w) k f fd ps (lift K mg spF) ∧ Binds K fd ps ds ∧ Vals vs ds ∧ (∀ wd, RpL K wd dv vs) ∧ ∀ us cs Q PX, sp us cs Q PX → spF (us ++ dv) cs Q PX
section
variable {X : Cx} {W : WX} {pos p apos : Pos} {e o : Expr} {es : List Expr} {ces : Es} {co : E} {sp : Spec} {m : Str} {k n : Nat} {C : Addr}
end
section
variable {P : Program} {w : World} {K : PySem.W.Frag} {mg : Str → Option Value} {base : Heap} {C : Addr} {x m : Str} {k n : Nat} {sp spF : Spec} {f : Addr} {fd : FuncData} {ps : List Str} {qual : Str} {params : Arguments} {body : List Stmt} {scope : Scope}
end
end G

namespace K49
open PySem L2 G
abbrev N_leads_to_root : List Str := ["parents", "node", "step"]
theorem sc_leads_to_root : FnScope N_leads_to_root ["parents", "node"] (defScope s_leads_to_root) := ⟨rfl, rfl, rfl, by decide +kernel, rfl, by decide +kernel, by decide +kernel⟩
theorem js_leads_to_root {P : Program} {w : World} {K : PySem.W.Frag} {mg : Str → Option Value} {base : Heap} {k : Nat} (n_len : mg "len" = none) (n_range : mg "range" = none) {f : Addr} {cdv : Value} {A : Around} {outer : List Env} {s : Shared} {H : Hp} {E : XK}
    (C : Ct (cxOf (L2N.CX P w) P w K mg base N_leads_to_root "leads_to_root" (defScope s_leads_to_root) f cdv A outer s H E) (wxOf E) k) :
    JSs (cxOf (L2N.CX P w) P w K mg base N_leads_to_root "leads_to_root" (defScope s_leads_to_root) f cdv A outer s H E) (wxOf E) (defBody s_leads_to_root) (c_leads_to_root) :=
  (jss_cons (js_for (own := [2]) C.hp rfl (ji_rng1 (by rfl) n_range (j_len (by rfl) n_len (j_v 0))) (jg_nm 2 C.hN rfl (by first | exact Or.inl rfl | exact Or.inr rfl) (by decide)) (jss_cons (js_if (jt_eq C.hu (j_ix (j_v 0) (j_v 1)) (j_v 1)) (jss_one (js_ret j_bl)) jss_nil)
  (jss_one (js_set 1 C.hN rfl (by first | exact Or.inl rfl | exact Or.inr rfl) (j_ix (j_v 0) (j_v 1))))))
  (jss_one (js_ret j_bl)))
abbrev N_is_forest : List Str := ["parents", "node", "above"]
theorem sc_is_forest : FnScope N_is_forest ["parents"] (defScope s_is_forest) := ⟨rfl, rfl, rfl, by decide +kernel, rfl, by decide +kernel, by decide +kernel⟩
theorem js_is_forest {P : Program} {w : World} {K : PySem.W.Frag} {mg : Str → Option Value} {base : Heap} {k : Nat} (n_all : mg "all" = none) (n_len : mg "len" = none) (n_range : mg "range" = none) (m_MAX_NODES : ∃ t, mg "MAX_NODES" = some (.int 40 t)) {p_leads_to_root : G.Spec} {k_leads_to_root n_leads_to_root : Nat} (F_leads_to_root : Fn P w K mg base "leads_to_root" k_leads_to_root n_leads_to_root p_leads_to_root) (l_leads_to_root : k_leads_to_root ≤ k) {f : Addr} {cdv : Value} {A : Around} {outer : List Env} {s : Shared} {H : Hp} {E : XK}
    (C : Ct (cxOf (L2N.CX P w) P w K mg base N_is_forest "is_forest" (defScope s_is_forest) f cdv A outer s H E) (wxOf E) k) :
    JSs (cxOf (L2N.CX P w) P w K mg base N_is_forest "is_forest" (defScope s_is_forest) f cdv A outer s H E) (wxOf E) (defBody s_is_forest) (c_is_forest p_leads_to_root) :=
  (jss_cons (js_if (jt_w (jw_or (jt_gt (j_len (by rfl) n_len (j_v 0)) (j_gint (by rfl) m_MAX_NODES)) (jw_or1 (jt_not (jt_val (j_all rfl (by rfl) n_all (j_comp false (own := [("above", 2)]) rfl C.hN (ji_seq (j_v 0)) (blkOk_by (N := N_is_forest) (sc := defScope s_is_forest) (own := [("above", 2)]) (by decide +kernel)) (fun _ _ _ _ _ => (jg_nm 2 C.hN rfl (by first | exact Or.inl rfl | exact Or.inr rfl) (by decide))) (fun _ _ _ _ _ => jts_nil) (fun _ _ _ _ _ => (j_chLeLt j_int (j_v 2) (j_len (by rfl) n_len (j_v 0))))))))))) (jss_one (js_ret j_bl)) jss_nil)
  (jss_one (js_ret (j_all rfl (by rfl) n_all (j_comp false (own := [("node", 1)]) rfl C.hN (ji_rng1 (by rfl) n_range (j_len (by rfl) n_len (j_v 0))) (blkOk_by (N := N_is_forest) (sc := defScope s_is_forest) (own := [("node", 1)]) (by decide +kernel)) (fun _ _ _ _ _ => (jg_nm 1 C.hN rfl (by first | exact Or.inl rfl | exact Or.inr rfl) (by decide))) (fun _ _ _ _ _ => jts_nil) (fun _ _ _ _ _ => (j_call F_leads_to_root (C.hr.mono l_leads_to_root) takesN (by rfl) (ja_cons (j_v 0) (ja_cons (j_v 1) ja_nil)))))))))
abbrev N_parse_number : List Str := ["text", "digits", "sign"]
theorem sc_parse_number : FnScope N_parse_number ["text"] (defScope s_parse_number) := ⟨rfl, rfl, rfl, by decide +kernel, rfl, by decide +kernel, by decide +kernel⟩
theorem js_parse_number {P : Program} {w : World} {K : PySem.W.Frag} {mg : Str → Option Value} {base : Heap} {k : Nat} (n_all : mg "all" = none) (n_int : mg "int" = none) (n_len : mg "len" = none) (m_MAX_DIGITS : ∃ t, mg "MAX_DIGITS" = some (.int 31 t)) (m_DIGITS : ∃ t, mg "DIGITS" = some (.str "0123456789" t)) {f : Addr} {cdv : Value} {A : Around} {outer : List Env} {s : Shared} {H : Hp} {E : XK}
    (C : Ct (cxOf (L2N.CX P w) P w K mg base N_parse_number "parse_number" (defScope s_parse_number) f cdv A outer s H E) (wxOf E) k) :
    JSs (cxOf (L2N.CX P w) P w K mg base N_parse_number "parse_number" (defScope s_parse_number) f cdv A outer s H E) (wxOf E) (defBody s_parse_number) (c_parse_number) :=
  (jss_cons (js_set 1 C.hN rfl (by first | exact Or.inl rfl | exact Or.inr rfl) (je_if (jt_eq C.hu (j_cutHiA (j_v 0) j_int) j_str) (j_cutLoA (j_v 0) j_int) (j_v 0)))
  (jss_cons (js_if (jt_w (jw_or (jt_not (jt_chLeLe j_int (j_len (by rfl) n_len (j_v 1)) (j_gint (by rfl) m_MAX_DIGITS))) (jw_or1 (jt_not (jt_val (j_all rfl (by rfl) n_all (j_comp false (own := [("sign", 2)]) rfl C.hN (ji_str (j_v 1)) (blkOk_by (N := N_parse_number) (sc := defScope s_parse_number) (own := [("sign", 2)]) (by decide +kernel)) (fun _ _ _ _ _ => (jg_nm 2 C.hN rfl (by first | exact Or.inl rfl | exact Or.inr rfl) (by decide))) (fun _ _ _ _ _ => jts_nil) (fun _ _ _ _ _ => (j_inStr (j_v 2) (j_gstr (by rfl) m_DIGITS)))))))))) (jss_one (js_ret j_non)) jss_nil)
  (jss_cons (js_if (jt_w (jw_and (jt_eq C.hu (j_ixA (j_v 1) j_int) j_str) (jw_and1 (jt_ne C.hu (j_v 0) j_str)))) (jss_one (js_ret j_non)) jss_nil)
  (jss_one (js_ret (j_intS (by rfl) n_int (j_v 0)))))))
abbrev N_format_forest : List Str := ["forest", "node", "above"]
theorem sc_format_forest : FnScope N_format_forest ["forest"] (defScope s_format_forest) := ⟨rfl, rfl, rfl, by decide +kernel, rfl, by decide +kernel, by decide +kernel⟩
theorem js_format_forest {P : Program} {w : World} {K : PySem.W.Frag} {mg : Str → Option Value} {base : Heap} {k : Nat} (n_enumerate : mg "enumerate" = none) (n_str : mg "str" = none) {f : Addr} {cdv : Value} {A : Around} {outer : List Env} {s : Shared} {H : Hp} {E : XK}
    (C : Ct (cxOf (L2N.CX P w) P w K mg base N_format_forest "format_forest" (defScope s_format_forest) f cdv A outer s H E) (wxOf E) k) :
    JSs (cxOf (L2N.CX P w) P w K mg base N_format_forest "format_forest" (defScope s_format_forest) f cdv A outer s H E) (wxOf E) (defBody s_format_forest) (c_format_forest) :=
  (jss_one (js_ret (j_join j_str (j_comp false (own := [("node", 1), ("above", 2)]) rfl C.hN (ji_enum (by rfl) n_enumerate (j_v 0)) (blkOk_by (N := N_format_forest) (sc := defScope s_format_forest) (own := [("node", 1), ("above", 2)]) (by decide +kernel)) (fun _ _ _ _ _ => (jg_tup rfl (jgs_cons (jg_nm 1 C.hN rfl (by first | exact Or.inl rfl | exact Or.inr rfl) (by decide)) (jgs_cons (jg_nm 2 C.hN rfl (by first | exact Or.inl rfl | exact Or.inr rfl) (by decide)) jgs_nil)))) (fun _ _ _ _ _ => jts_nil) (fun _ _ _ _ _ => (je_if (jt_eq C.hu (j_v 2) (j_v 1)) j_str (j_strI (by rfl) n_str (j_v 2))))))))
abbrev N_parse_parent : List Str := ["node", "text", "number"]
theorem sc_parse_parent : FnScope N_parse_parent ["node", "text"] (defScope s_parse_parent) := ⟨rfl, rfl, rfl, by decide +kernel, rfl, by decide +kernel, by decide +kernel⟩
theorem js_parse_parent {P : Program} {w : World} {K : PySem.W.Frag} {mg : Str → Option Value} {base : Heap} {k : Nat} {p_parse_number : G.Spec} {k_parse_number n_parse_number : Nat} (F_parse_number : Fn P w K mg base "parse_number" k_parse_number n_parse_number p_parse_number) (l_parse_number : k_parse_number ≤ k) {f : Addr} {cdv : Value} {A : Around} {outer : List Env} {s : Shared} {H : Hp} {E : XK}
    (C : Ct (cxOf (L2N.CX P w) P w K mg base N_parse_parent "parse_parent" (defScope s_parse_parent) f cdv A outer s H E) (wxOf E) k) :
    JSs (cxOf (L2N.CX P w) P w K mg base N_parse_parent "parse_parent" (defScope s_parse_parent) f cdv A outer s H E) (wxOf E) (defBody s_parse_parent) (c_parse_parent p_parse_number) :=
  (jss_cons (js_set 2 C.hN rfl (by first | exact Or.inl rfl | exact Or.inr rfl) (je_if (jt_eq C.hu (j_v 1) j_str) (j_v 0) (j_call F_parse_number (C.hr.mono l_parse_number) C.tk (by rfl) (ja_cons (j_v 1) ja_nil))))
  (jss_one (js_ret (je_if (jt_w (jw_and (jt_eq C.hu (j_v 2) (j_v 0)) (jw_and1 (jt_ne C.hu (j_v 1) j_str)))) j_non (j_v 2)))))
abbrev N_parse_forest : List Str := ["text", "words", "parents", "node", "word"]
theorem sc_parse_forest : FnScope N_parse_forest ["text"] (defScope s_parse_forest) := ⟨rfl, rfl, rfl, by decide +kernel, rfl, by decide +kernel, by decide +kernel⟩
theorem js_parse_forest {P : Program} {w : World} {K : PySem.W.Frag} {mg : Str → Option Value} {base : Heap} {k : Nat} (n_enumerate : mg "enumerate" = none) (n_tuple : mg "tuple" = none) {p_is_forest : G.Spec} {k_is_forest n_is_forest : Nat} (F_is_forest : Fn P w K mg base "is_forest" k_is_forest n_is_forest p_is_forest) (l_is_forest : k_is_forest ≤ k) {p_parse_parent : G.Spec} {k_parse_parent n_parse_parent : Nat} (F_parse_parent : Fn P w K mg base "parse_parent" k_parse_parent n_parse_parent p_parse_parent) (l_parse_parent : k_parse_parent ≤ k) (XC_ParseError : Xc P w K mg base "ParseError" "pos") (l_rse : 2 ≤ k) {f : Addr} {cdv : Value} {A : Around} {outer : List Env} {s : Shared} {H : Hp} {E : XK}
    (C : Ct (cxOf (L2N.CX P w) P w K mg base N_parse_forest "parse_forest" (defScope s_parse_forest) f cdv A outer s H E) (wxOf E) k) :
    JSs (cxOf (L2N.CX P w) P w K mg base N_parse_forest "parse_forest" (defScope s_parse_forest) f cdv A outer s H E) (wxOf E) (defBody s_parse_forest) (c_parse_forestX p_is_forest p_parse_parent) :=
  (jss_cons (js_set 1 C.hN rfl (by first | exact Or.inl rfl | exact Or.inr rfl) (je_if (jt_eq C.hu (j_v 0) j_str) (j_list (k := 0) ja_nil) (j_split (j_v 0) j_str)))
  (jss_cons (js_setc 2 false (own := [("node", 3), ("word", 4)]) rfl C.hN rfl rfl (sw_true rfl rfl rfl (by decide +kernel)) (ji_enum (by rfl) n_enumerate (j_v 1)) (blkOk_by (N := N_parse_forest) (sc := defScope s_parse_forest) (own := [("node", 3), ("word", 4)]) (by decide +kernel)) (fun _ _ _ _ _ => (jg_tup rfl (jgs_cons (jg_nm 3 C.hN rfl (by first | exact Or.inl rfl | exact Or.inr rfl) (by decide)) (jgs_cons (jg_nm 4 C.hN rfl (by first | exact Or.inl rfl | exact Or.inr rfl) (by decide)) jgs_nil)))) (fun _ _ _ _ _ => jts_nil) (fun _ _ _ _ _ => (j_call F_parse_parent (C.hr.mono l_parse_parent) takesN (by rfl) (ja_cons (j_v 3) (ja_cons (j_v 4) ja_nil)))))
  (jss_cons (js_if (jt_w (jw_or (jt_in j_non (j_v 2)) (jw_or1 (jt_not (jt_val (j_call F_is_forest (C.hr.mono l_is_forest) C.tk (by rfl) (ja_cons (j_tupOf (by rfl) n_tuple (j_v 2)) ja_nil))))))) (jss_one (js_raise XC_ParseError (C.hr.mono l_rse) C.tk C.hc (by rfl) j_int)) jss_nil)
  (jss_one (js_ret (j_tupOf (by rfl) n_tuple (j_v 2)))))))
abbrev N__law_start : List Str := ["_law_script"]
theorem sc__law_start : FnScope N__law_start ["_law_script"] (defScope s__law_start) := ⟨rfl, rfl, rfl, by decide +kernel, rfl, by decide +kernel, by decide +kernel⟩
theorem js__law_start {P : Program} {w : World} {K : PySem.W.Frag} {mg : Str → Option Value} {base : Heap} {k : Nat} (n_len : mg "len" = none) (n_list : mg "list" = none) {f : Addr} {cdv : Value} {A : Around} {outer : List Env} {s : Shared} {H : Hp} {E : XK}
    (C : Ct (cxOf (L2N.CX P w) P w K mg base N__law_start "_law_start" (defScope s__law_start) f cdv A outer s H E) (wxOf E) k) :
    JSs (cxOf (L2N.CX P w) P w K mg base N__law_start "_law_start" (defScope s__law_start) f cdv A outer s H E) (wxOf E) (defBody s__law_start) (c_start) :=
  (jss_one (js_ret (j_listM (ja_cons (j_listOf (by rfl) n_list (j_cutScr (j_v 0))) (ja_cons j_int (ja_cons j_int (ja_cons (j_add j_int (j_mul j_int (j_len (by rfl) n_len (j_cutScr (j_v 0))))) ja_nil)))))))
abbrev N__law_take : List Str := ["_law_draw", "_law_many", "_law_cell", "_law_digit", "_law_square"]
theorem sc__law_take : FnScope N__law_take ["_law_draw", "_law_many"] (defScope s__law_take) := ⟨rfl, rfl, rfl, by decide +kernel, rfl, by decide +kernel, by decide +kernel⟩
theorem js__law_take {P : Program} {w : World} {K : PySem.W.Frag} {mg : Str → Option Value} {base : Heap} {k : Nat} (n_len : mg "len" = none) {f : Addr} {cdv : Value} {A : Around} {outer : List Env} {s : Shared} {H : Hp} {E : XK}
    (C : Ct (cxOf (L2N.CX P w) P w K mg base N__law_take "_law_take" (defScope s__law_take) f cdv A outer s H E) (wxOf E) k) :
    JSs (cxOf (L2N.CX P w) P w K mg base N__law_take "_law_take" (defScope s__law_take) f cdv A outer s H E) (wxOf E) (defBody s__law_take) (c_take) :=
  (jss_cons (js_if (jt_w (jw_and (jt_lt (j_ix (j_v 0) j_int) (j_v 1)) (jw_and1 (jt_lt (j_ix (j_v 0) j_int) (j_len (by rfl) n_len (j_ix (j_v 0) j_int)))))) (jss_cons (js_set 2 C.hN rfl (by first | exact Or.inl rfl | exact Or.inr rfl) (j_ix (j_ix (j_v 0) j_int) (j_ix (j_v 0) j_int)))
  (jss_cons (js_setIx (j_add (j_ix (j_v 0) j_int) j_int) (j_v 0) j_int)
  (jss_cons (js_setIx j_int (j_v 0) j_int)
  (jss_cons (js_if (jt_ge (j_v 2) (j_pow j_int j_int)) (jss_one (js_setIx (j_v 2) (j_v 0) j_int)) jss_nil)
  (jss_one (js_setIx (j_mod (j_add (j_add (j_mul (j_ix (j_v 0) j_int) j_int) (j_mul (j_mod (j_v 2) j_int) j_int)) (j_ix (j_v 0) j_int)) j_int) (j_v 0) j_int)))))) jss_nil)
  (jss_cons (js_if (jt_ge (j_ix (j_v 0) j_int) (j_v 1)) (jss_cons (js_set 3 C.hN rfl (by first | exact Or.inl rfl | exact Or.inr rfl) (j_mod (j_ix (j_v 0) j_int) (j_v 1)))
  (jss_cons (js_setIx (j_div (j_ix (j_v 0) j_int) (j_v 1)) (j_v 0) j_int)
  (jss_one (js_ret (j_v 3))))) jss_nil)
  (jss_cons (js_set 4 C.hN rfl (by first | exact Or.inl rfl | exact Or.inr rfl) (j_mod (j_mul (j_ix (j_v 0) j_int) (j_ix (j_v 0) j_int)) j_int))
  (jss_cons (js_setIx (j_mod (j_add (j_add (j_mul (j_v 4) j_int) (j_mul (j_ix (j_v 0) j_int) j_int)) j_int) j_int) (j_v 0) j_int)
  (jss_one (js_ret (j_mod (j_div (j_ix (j_v 0) j_int) j_int) (j_v 1))))))))
abbrev N__law_of : List Str := ["_law_draw", "_law_some"]
theorem sc__law_of : FnScope N__law_of ["_law_draw", "_law_some"] (defScope s__law_of) := ⟨rfl, rfl, rfl, by decide +kernel, rfl, by decide +kernel, by decide +kernel⟩
theorem js__law_of {P : Program} {w : World} {K : PySem.W.Frag} {mg : Str → Option Value} {base : Heap} {k : Nat} (n_len : mg "len" = none) {p__law_take : G.Spec} {k__law_take n__law_take : Nat} (F__law_take : Fn P w K mg base "_law_take" k__law_take n__law_take p__law_take) (l__law_take : k__law_take ≤ k) {f : Addr} {cdv : Value} {A : Around} {outer : List Env} {s : Shared} {H : Hp} {E : XK}
    (C : Ct (cxOf (L2N.CX P w) P w K mg base N__law_of "_law_of" (defScope s__law_of) f cdv A outer s H E) (wxOf E) k) :
    JSs (cxOf (L2N.CX P w) P w K mg base N__law_of "_law_of" (defScope s__law_of) f cdv A outer s H E) (wxOf E) (defBody s__law_of) (c_of p__law_take) :=
  (jss_one (js_ret (j_ix (j_v 1) (j_call F__law_take (C.hr.mono l__law_take) C.tk (by rfl) (ja_cons (j_v 0) (ja_cons (j_len (by rfl) n_len (j_v 1)) ja_nil))))))
abbrev N__law_shuffled : List Str := ["_law_draw", "_law_some", "_law_found", "_law_one"]
theorem sc__law_shuffled : FnScope N__law_shuffled ["_law_draw", "_law_some"] (defScope s__law_shuffled) := ⟨rfl, rfl, rfl, by decide +kernel, rfl, by decide +kernel, by decide +kernel⟩
theorem js__law_shuffled {P : Program} {w : World} {K : PySem.W.Frag} {mg : Str → Option Value} {base : Heap} {k : Nat} (n_len : mg "len" = none) {p__law_take : G.Spec} {k__law_take n__law_take : Nat} (F__law_take : Fn P w K mg base "_law_take" k__law_take n__law_take p__law_take) (l__law_take : k__law_take ≤ k) {f : Addr} {cdv : Value} {A : Around} {outer : List Env} {s : Shared} {H : Hp} {E : XK}
    (C : Ct (cxOf (L2N.CX P w) P w K mg base N__law_shuffled "_law_shuffled" (defScope s__law_shuffled) f cdv A outer s H E) (wxOf E) k) :
    JSs (cxOf (L2N.CX P w) P w K mg base N__law_shuffled "_law_shuffled" (defScope s__law_shuffled) f cdv A outer s H E) (wxOf E) (defBody s__law_shuffled) (c_l_shuffled p__law_take) :=
  (jss_cons (js_set 2 C.hN rfl (by first | exact Or.inl rfl | exact Or.inr rfl) (j_listM ja_nil))
  (jss_cons (js_for (own := [3]) C.hp rfl (ji_seq (j_v 1)) (jg_nm 3 C.hN rfl (by first | exact Or.inl rfl | exact Or.inr rfl) (by decide)) (jss_one (js_exp (j_insert (j_v 2) (j_call F__law_take (C.hr.mono l__law_take) C.tk (by rfl) (ja_cons (j_v 0) (ja_cons (j_add (j_len (by rfl) n_len (j_v 2)) j_int) ja_nil))) (j_v 3)))))
  (jss_frz 2 (jss_one (js_ret (j_v 2))))))
abbrev N__law_same : List Str := ["_law_found", "_law_due", "_law_one", "_law_other"]
theorem sc__law_same : FnScope N__law_same ["_law_found", "_law_due"] (defScope s__law_same) := ⟨rfl, rfl, rfl, by decide +kernel, rfl, by decide +kernel, by decide +kernel⟩
theorem js__law_same {P : Program} {w : World} {K : PySem.W.Frag} {mg : Str → Option Value} {base : Heap} {k : Nat} (n_all : mg "all" = none) (n_bool : mg "bool" = none) (n_int : mg "int" = none) (n_isinstance : mg "isinstance" = none) (n_len : mg "len" = none) (n_list : mg "list" = none) (n_str : mg "str" = none) (n_tuple : mg "tuple" = none) (n_zip : mg "zip" = none) {p__law_same : G.Spec} {k__law_same n__law_same : Nat} (F__law_same : Fn P w K mg base "_law_same" k__law_same n__law_same p__law_same) (l__law_same : k__law_same ≤ k) {f : Addr} {cdv : Value} {A : Around} {outer : List Env} {s : Shared} {H : Hp} {E : XK}
    (C : Ct (cxOf (L2N.CX P w) P w K mg base N__law_same "_law_same" (defScope s__law_same) f cdv A outer s H E) (wxOf E) k) :
    JSs (cxOf (L2N.CX P w) P w K mg base N__law_same "_law_same" (defScope s__law_same) f cdv A outer s H E) (wxOf E) (defBody s__law_same) (c_same p__law_same) :=
  (jss_cons (js_if (jt_isN (j_v 1) j_non) (jss_one (js_ret (j_isN (j_v 0) j_non))) jss_nil)
  (jss_cons (js_if (jt_val (j_isi2 (t := .list) (t' := .tuple) (by rfl) n_isinstance (by rfl) n_list boot_listG (by rfl) n_tuple boot_tupleG (j_v 1))) (jss_cons (js_if (jt_w (jw_or (jt_ne C.hu (j_isi (t := .list) (by rfl) n_isinstance (by rfl) n_list boot_listG (j_v 0)) (j_isi (t := .list) (by rfl) n_isinstance (by rfl) n_list boot_listG (j_v 1))) (jw_or1 (jt_ne C.hu (j_isi (t := .tuple) (by rfl) n_isinstance (by rfl) n_tuple boot_tupleG (j_v 0)) (j_isi (t := .tuple) (by rfl) n_isinstance (by rfl) n_tuple boot_tupleG (j_v 1)))))) (jss_one (js_ret j_bl)) jss_nil)
  (jss_one (js_ret (je_and (j_eq C.hu (j_len (by rfl) n_len (j_v 0)) (j_len (by rfl) n_len (j_v 1))) (je_one (j_all rfl (by rfl) n_all (j_comp false (own := [("_law_one", 2), ("_law_other", 3)]) rfl C.hN (ji_zip (by rfl) n_zip (j_v 0) (j_v 1)) (blkOk_by (N := N__law_same) (sc := defScope s__law_same) (own := [("_law_one", 2), ("_law_other", 3)]) (by decide +kernel)) (fun _ _ _ _ _ => (jg_tup rfl (jgs_cons (jg_nm 2 C.hN rfl (by first | exact Or.inl rfl | exact Or.inr rfl) (by decide)) (jgs_cons (jg_nm 3 C.hN rfl (by first | exact Or.inl rfl | exact Or.inr rfl) (by decide)) jgs_nil)))) (fun _ _ _ _ _ => jts_nil) (fun _ _ _ _ _ => (j_call F__law_same (C.hr.mono l__law_same) takesN (by rfl) (ja_cons (j_v 2) (ja_cons (j_v 3) ja_nil))))))))))) jss_nil)
  (jss_cons (js_if (jt_w (jw_or (jt_ne C.hu (j_isi (t := .bool) (by rfl) n_isinstance (by rfl) n_bool boot_boolG (j_v 1)) (j_isi (t := .bool) (by rfl) n_isinstance (by rfl) n_bool boot_boolG (j_v 0))) (jw_or1 (jt_ne C.hu (j_isi (t := .int) (by rfl) n_isinstance (by rfl) n_int boot_intG (j_v 1)) (j_isi (t := .int) (by rfl) n_isinstance (by rfl) n_int boot_intG (j_v 0)))))) (jss_one (js_ret j_bl)) jss_nil)
  (jss_one (js_ret (je_and (j_eq C.hu (j_isi (t := .str) (by rfl) n_isinstance (by rfl) n_str boot_strG (j_v 1)) (j_isi (t := .str) (by rfl) n_isinstance (by rfl) n_str boot_strG (j_v 0))) (je_one (j_eq C.hu (j_v 0) (j_v 1)))))))))
abbrev N__law_size : List Str := ["_law_draw", "_law_most"]
theorem sc__law_size : FnScope N__law_size ["_law_draw", "_law_most"] (defScope s__law_size) := ⟨rfl, rfl, rfl, by decide +kernel, rfl, by decide +kernel, by decide +kernel⟩
theorem js__law_size {P : Program} {w : World} {K : PySem.W.Frag} {mg : Str → Option Value} {base : Heap} {k : Nat} (n_min : mg "min" = none) {p__law_of : G.Spec} {k__law_of n__law_of : Nat} (F__law_of : Fn P w K mg base "_law_of" k__law_of n__law_of p__law_of) (l__law_of : k__law_of ≤ k) {p__law_take : G.Spec} {k__law_take n__law_take : Nat} (F__law_take : Fn P w K mg base "_law_take" k__law_take n__law_take p__law_take) (l__law_take : k__law_take ≤ k) {f : Addr} {cdv : Value} {A : Around} {outer : List Env} {s : Shared} {H : Hp} {E : XK}
    (C : Ct (cxOf (L2N.CX P w) P w K mg base N__law_size "_law_size" (defScope s__law_size) f cdv A outer s H E) (wxOf E) k) :
    JSs (cxOf (L2N.CX P w) P w K mg base N__law_size "_law_size" (defScope s__law_size) f cdv A outer s H E) (wxOf E) (defBody s__law_size) (c_l_size p__law_of p__law_take) :=
  (jss_one (js_ret (j_call F__law_of (C.hr.mono l__law_of) C.tk (by rfl) (ja_cons (j_v 0) (ja_cons (j_list (k := 0) (ja_cons (j_call F__law_take (C.hr.mono l__law_take) C.tk (by rfl) (ja_cons (j_v 0) (ja_cons (j_add (j_v 1) j_int) ja_nil))) (ja_cons (j_min2 rfl (by rfl) n_min (j_v 1) (j_call F__law_take (C.hr.mono l__law_take) C.tk (by rfl) (ja_cons (j_v 0) (ja_cons j_int ja_nil)))) (ja_cons (j_min2 rfl (by rfl) n_min (j_v 1) j_int) ja_nil)))) ja_nil)))))
abbrev N__law_path : List Str := ["_law_forest_in", "_law_node", "_law_found", "_law_step"]
theorem sc__law_path : FnScope N__law_path ["_law_forest_in", "_law_node"] (defScope s__law_path) := ⟨rfl, rfl, rfl, by decide +kernel, rfl, by decide +kernel, by decide +kernel⟩
theorem js__law_path {P : Program} {w : World} {K : PySem.W.Frag} {mg : Str → Option Value} {base : Heap} {k : Nat} (n_len : mg "len" = none) (n_range : mg "range" = none) {f : Addr} {cdv : Value} {A : Around} {outer : List Env} {s : Shared} {H : Hp} {E : XK}
    (C : Ct (cxOf (L2N.CX P w) P w K mg base N__law_path "_law_path" (defScope s__law_path) f cdv A outer s H E) (wxOf E) k) :
    JSs (cxOf (L2N.CX P w) P w K mg base N__law_path "_law_path" (defScope s__law_path) f cdv A outer s H E) (wxOf E) (defBody s__law_path) (c_l_path) :=
  (jss_cons (js_set 2 C.hN rfl (by first | exact Or.inl rfl | exact Or.inr rfl) (j_listM (ja_cons (j_v 1) ja_nil)))
  (jss_cons (js_for (own := [3]) C.hp rfl (ji_rng1 (by rfl) n_range (j_len (by rfl) n_len (j_v 0))) (jg_nm 3 C.hN rfl (by first | exact Or.inl rfl | exact Or.inr rfl) (by decide)) (jss_one (js_if (jt_ne C.hu (j_ix (j_v 0) (j_ix (j_v 2) (j_neg j_int))) (j_ix (j_v 2) (j_neg j_int))) (jss_one (js_exp (j_append (j_v 2) (j_ix (j_v 0) (j_ix (j_v 2) (j_neg j_int)))))) jss_nil)))
  (jss_frz 2 (jss_one (js_ret (j_v 2))))))
abbrev N__law_renamed : List Str := ["_law_draw", "_law_parents", "_law_names", "_law_found", "_law_node"]
theorem sc__law_renamed : FnScope N__law_renamed ["_law_draw", "_law_parents"] (defScope s__law_renamed) := ⟨rfl, rfl, rfl, by decide +kernel, rfl, by decide +kernel, by decide +kernel⟩
theorem js__law_renamed {P : Program} {w : World} {K : PySem.W.Frag} {mg : Str → Option Value} {base : Heap} {k : Nat} (n_len : mg "len" = none) (n_list : mg "list" = none) (n_range : mg "range" = none) (n_tuple : mg "tuple" = none) {p__law_shuffled : G.Spec} {k__law_shuffled n__law_shuffled : Nat} (F__law_shuffled : Fn P w K mg base "_law_shuffled" k__law_shuffled n__law_shuffled p__law_shuffled) (l__law_shuffled : k__law_shuffled ≤ k) {f : Addr} {cdv : Value} {A : Around} {outer : List Env} {s : Shared} {H : Hp} {E : XK}
    (C : Ct (cxOf (L2N.CX P w) P w K mg base N__law_renamed "_law_renamed" (defScope s__law_renamed) f cdv A outer s H E) (wxOf E) k) :
    JSs (cxOf (L2N.CX P w) P w K mg base N__law_renamed "_law_renamed" (defScope s__law_renamed) f cdv A outer s H E) (wxOf E) (defBody s__law_renamed) (c_l_renamed p__law_shuffled) :=
  (jss_cons (js_set 2 C.hN rfl (by first | exact Or.inl rfl | exact Or.inr rfl) (j_call F__law_shuffled (C.hr.mono l__law_shuffled) C.tk (by rfl) (ja_cons (j_v 0) (ja_cons (j_listRg1 rfl (by rfl) n_list (by rfl) n_range (j_len (by rfl) n_len (j_v 1))) ja_nil))))
  (jss_cons (js_set 3 C.hN rfl (by first | exact Or.inl rfl | exact Or.inr rfl) (j_repM (j_list (k := 0) (ja_cons j_int ja_nil)) (j_len (by rfl) n_len (j_v 1))))
  (jss_cons (js_for (own := [4]) C.hp rfl (ji_rng1 (by rfl) n_range (j_len (by rfl) n_len (j_v 1))) (jg_nm 4 C.hN rfl (by first | exact Or.inl rfl | exact Or.inr rfl) (by decide)) (jss_one (js_setIx (j_ix (j_v 2) (j_ix (j_v 1) (j_v 4))) (j_v 3) (j_ix (j_v 2) (j_v 4)))))
  (jss_one (js_ret (j_tupOf (by rfl) n_tuple (j_v 3)))))))
abbrev N__law_forest : List Str := ["_law_draw", "_law_size_here", "_law_many", "_law_pick", "_law_parents", "_law_node", "_law_near", "_law_above"]
theorem sc__law_forest : FnScope N__law_forest ["_law_draw", "_law_size_here", "_law_many"] (defScope s__law_forest) := ⟨rfl, rfl, rfl, by decide +kernel, rfl, by decide +kernel, by decide +kernel⟩
theorem js__law_forest {P : Program} {w : World} {K : PySem.W.Frag} {mg : Str → Option Value} {base : Heap} {k : Nat} (n_max : mg "max" = none) (n_range : mg "range" = none) {p__law_renamed : G.Spec} {k__law_renamed n__law_renamed : Nat} (F__law_renamed : Fn P w K mg base "_law_renamed" k__law_renamed n__law_renamed p__law_renamed) (l__law_renamed : k__law_renamed ≤ k) {p__law_take : G.Spec} {k__law_take n__law_take : Nat} (F__law_take : Fn P w K mg base "_law_take" k__law_take n__law_take p__law_take) (l__law_take : k__law_take ≤ k) {f : Addr} {cdv : Value} {A : Around} {outer : List Env} {s : Shared} {H : Hp} {E : XK}
    (C : Ct (cxOf (L2N.CX P w) P w K mg base N__law_forest "_law_forest" (defScope s__law_forest) f cdv A outer s H E) (wxOf E) k) :
    JSs (cxOf (L2N.CX P w) P w K mg base N__law_forest "_law_forest" (defScope s__law_forest) f cdv A outer s H E) (wxOf E) (defBody s__law_forest) (c_l_forest p__law_renamed p__law_take) :=
  (jss_cons (js_par 3 4 rfl C.hN rfl rfl (by decide) rfl rfl (j_call F__law_take (C.hr.mono l__law_take) C.tk (by rfl) (ja_cons (j_v 0) (ja_cons j_int ja_nil))) (j_listM ja_nil) (by rfl))
  (jss_cons (js_for (own := [5]) C.hp rfl (ji_rng1 (by rfl) n_range (j_v 1)) (jg_nm 5 C.hN rfl (by first | exact Or.inl rfl | exact Or.inr rfl) (by decide)) (jss_cons (js_set 6 C.hN rfl (by first | exact Or.inl rfl | exact Or.inr rfl) (j_list (k := 0) (ja_cons (j_sub (j_v 5) j_int) (ja_cons j_int (ja_cons (j_max2 rfl (by rfl) n_max j_int (j_sub (j_v 5) j_int)) (ja_cons (j_max2 rfl (by rfl) n_max j_int (j_sub (j_sub (j_v 5) j_int) (j_mod (j_v 5) j_int))) ja_nil))))))
  (jss_cons (js_set 7 C.hN rfl (by first | exact Or.inl rfl | exact Or.inr rfl) (je_if (jt_lt (j_v 3) j_int) (j_ix (j_v 6) (j_v 3)) (j_call F__law_take (C.hr.mono l__law_take) C.tk (by rfl) (ja_cons (j_v 0) (ja_cons (j_max2 rfl (by rfl) n_max j_int (j_v 5)) ja_nil)))))
  (jss_cons (js_if (jt_eq C.hu (j_v 3) j_int) (jss_one (js_set 7 C.hN rfl (by first | exact Or.inl rfl | exact Or.inr rfl) (j_max2 rfl (by rfl) n_max j_int (j_sub (j_sub (j_v 5) j_int) (j_call F__law_take (C.hr.mono l__law_take) C.tk (by rfl) (ja_cons (j_v 0) (ja_cons j_int ja_nil))))))) jss_nil)
  (jss_cons (js_if (jt_w (jw_or (jt_eq C.hu (j_v 5) j_int) (jw_or1 (jt_w (jw_and (jt_lt (j_v 5) (j_v 2)) (jw_and1 (jt_eq C.hu (j_call F__law_take (C.hr.mono l__law_take) C.tk (by rfl) (ja_cons (j_v 0) (ja_cons j_int ja_nil))) j_int))))))) (jss_one (js_set 7 C.hN rfl (by first | exact Or.inl rfl | exact Or.inr rfl) (j_v 5))) jss_nil)
  (jss_one (js_exp (j_append (j_v 4) (j_v 7)))))))))
  (jss_one (js_ret (j_call F__law_renamed (C.hr.mono l__law_renamed) C.tk (by rfl) (ja_cons (j_v 0) (ja_cons (j_v 4) ja_nil)))))))
abbrev N__law_some_forest : List Str := ["_law_draw", "_law_most"]
theorem sc__law_some_forest : FnScope N__law_some_forest ["_law_draw", "_law_most"] (defScope s__law_some_forest) := ⟨rfl, rfl, rfl, by decide +kernel, rfl, by decide +kernel, by decide +kernel⟩
theorem js__law_some_forest {P : Program} {w : World} {K : PySem.W.Frag} {mg : Str → Option Value} {base : Heap} {k : Nat} {p__law_forest : G.Spec} {k__law_forest n__law_forest : Nat} (F__law_forest : Fn P w K mg base "_law_forest" k__law_forest n__law_forest p__law_forest) (l__law_forest : k__law_forest ≤ k) {p__law_size : G.Spec} {k__law_size n__law_size : Nat} (F__law_size : Fn P w K mg base "_law_size" k__law_size n__law_size p__law_size) (l__law_size : k__law_size ≤ k) {p__law_take : G.Spec} {k__law_take n__law_take : Nat} (F__law_take : Fn P w K mg base "_law_take" k__law_take n__law_take p__law_take) (l__law_take : k__law_take ≤ k) {f : Addr} {cdv : Value} {A : Around} {outer : List Env} {s : Shared} {H : Hp} {E : XK}
    (C : Ct (cxOf (L2N.CX P w) P w K mg base N__law_some_forest "_law_some_forest" (defScope s__law_some_forest) f cdv A outer s H E) (wxOf E) k) :
    JSs (cxOf (L2N.CX P w) P w K mg base N__law_some_forest "_law_some_forest" (defScope s__law_some_forest) f cdv A outer s H E) (wxOf E) (defBody s__law_some_forest) (c_l_some_forest p__law_forest p__law_size p__law_take) :=
  (jss_one (js_ret (j_call F__law_forest (C.hr.mono l__law_forest) C.tk (by rfl) (ja_cons (j_v 0) (ja_cons (j_call F__law_size (C.hr.mono l__law_size) C.tk (by rfl) (ja_cons (j_v 0) (ja_cons (j_v 1) ja_nil))) (ja_cons (j_add j_int (j_call F__law_take (C.hr.mono l__law_take) C.tk (by rfl) (ja_cons (j_v 0) (ja_cons j_int ja_nil)))) ja_nil))))))
abbrev N__law_shown : List Str := ["_law_forest_in", "_law_node"]
theorem sc__law_shown : FnScope N__law_shown ["_law_forest_in"] (defScope s__law_shown) := ⟨rfl, rfl, rfl, by decide +kernel, rfl, by decide +kernel, by decide +kernel⟩
theorem js__law_shown {P : Program} {w : World} {K : PySem.W.Frag} {mg : Str → Option Value} {base : Heap} {k : Nat} (n_len : mg "len" = none) (n_range : mg "range" = none) (n_str : mg "str" = none) {f : Addr} {cdv : Value} {A : Around} {outer : List Env} {s : Shared} {H : Hp} {E : XK}
    (C : Ct (cxOf (L2N.CX P w) P w K mg base N__law_shown "_law_shown" (defScope s__law_shown) f cdv A outer s H E) (wxOf E) k) :
    JSs (cxOf (L2N.CX P w) P w K mg base N__law_shown "_law_shown" (defScope s__law_shown) f cdv A outer s H E) (wxOf E) (defBody s__law_shown) (c_l_shown) :=
  (jss_one (js_ret (j_join j_str (j_comp false (own := [("_law_node", 1)]) rfl C.hN (ji_rng1 (by rfl) n_range (j_len (by rfl) n_len (j_v 0))) (blkOk_by (N := N__law_shown) (sc := defScope s__law_shown) (own := [("_law_node", 1)]) (by decide +kernel)) (fun _ _ _ _ _ => (jg_nm 1 C.hN rfl (by first | exact Or.inl rfl | exact Or.inr rfl) (by decide))) (fun _ _ _ _ _ => jts_nil) (fun _ _ _ _ _ => (je_if (jt_eq C.hu (j_ix (j_v 0) (j_v 1)) (j_v 1)) j_str (j_strI (by rfl) n_str (j_ix (j_v 0) (j_v 1)))))))))
def c_l_read_1 (p__law_path : G.Spec) (p__law_shown : G.Spec) : S := (.asg (.tup (.cons (.nm 1) (.cons (.nm 2) .nil))) (.app sTup (.cons (.ite (.app sNe (.cons (.v 0) (.cons (.c (.str "")) .nil))) (.meth chkS sSplit (.v 0) (.cons (.c (.str " ")) .nil)) (.app sList .nil)) (.cons (.app sListM .nil) .nil))))
def c_l_read_2 (p__law_path : G.Spec) (p__law_shown : G.Spec) : S := (.asg (.nm 4) (.app sIx (.cons (.v 1) (.cons (.v 3) .nil))))
def c_l_read_3 (p__law_path : G.Spec) (p__law_shown : G.Spec) : S := (.exp (.meth chkL sAppend (.v 2) (.cons (.v 3) .nil)))
def c_l_read_4 (p__law_path : G.Spec) (p__law_shown : G.Spec) : S := (.ret (.c .non))
def c_l_read_5 (p__law_path : G.Spec) (p__law_shown : G.Spec) : S := (.exp (.meth chkL sAppend (.v 2) (.cons (.app sIntS (.cons (.v 4) .nil)) .nil)))
def c_l_read_6 (p__law_path : G.Spec) (p__law_shown : G.Spec) : S := (.ite (.or (.app sEq (.cons (.v 4) (.cons (.c (.str "")) .nil))) (.or (.app sGt (.cons (.app sLen (.cons (.v 4) .nil)) (.cons (.c (.int 2)) .nil))) (.app sNot (.cons (.app sAll (.cons (.comp false [8] (.nm 8) iStr (.cons (.v 4) .nil) (.c (.bl true)) (.app sInStr (.cons (.v 8) (.cons (.c (.str "0123456789")) .nil)))) .nil)) .nil)))) (c_l_read_4 p__law_path p__law_shown) (c_l_read_5 p__law_path p__law_shown))
def c_l_read_7 (p__law_path : G.Spec) (p__law_shown : G.Spec) : S := (.ite (.app sEq (.cons (.v 4) (.cons (.c (.str "-")) .nil))) (c_l_read_3 p__law_path p__law_shown) (c_l_read_6 p__law_path p__law_shown))
def c_l_read_8 (p__law_path : G.Spec) (p__law_shown : G.Spec) : S := (.fr (.nm 3) iRng1 (.cons (.app sLen (.cons (.v 1) .nil)) .nil) (.seq (c_l_read_2 p__law_path p__law_shown) (c_l_read_7 p__law_path p__law_shown)))
def c_l_read_9 (p__law_path : G.Spec) (p__law_shown : G.Spec) : S := (.ret (.c .non))
def c_l_read_10 (p__law_path : G.Spec) (p__law_shown : G.Spec) : S := (.ite (.or (.app sGt (.cons (.app sLen (.cons (.v 2) .nil)) (.cons (.c (.int 40)) .nil))) (.or (.app sNot (.cons (.app sAll (.cons (.comp false [7] (.nm 7) iSeq (.cons (.v 2) .nil) (.c (.bl true)) (.app sLt (.cons (.v 7) (.cons (.app sLen (.cons (.v 2) .nil)) .nil)))) .nil)) .nil)) (.app sNe (.cons (.app p__law_shown (.cons (.app sTupOf (.cons (.v 2) .nil)) .nil)) (.cons (.v 0) .nil))))) (c_l_read_9 p__law_path p__law_shown) .skip)
def c_l_read_11 (p__law_path : G.Spec) (p__law_shown : G.Spec) : S := (.asg (.nm 5) (.comp false [3] (.nm 3) iRng1 (.cons (.app sLen (.cons (.v 2) .nil)) .nil) (.c (.bl true)) (.app sIx (.cons (.app p__law_path (.cons (.v 2) (.cons (.v 3) .nil))) (.cons (.app sNeg (.cons (.c (.int 1)) .nil)) .nil)))))
def c_l_read_12 (p__law_path : G.Spec) (p__law_shown : G.Spec) : S := (.ret (.ite (.app sAll (.cons (.comp false [6] (.nm 6) iSeq (.cons (.v 5) .nil) (.c (.bl true)) (.app sEq (.cons (.app sIx (.cons (.v 2) (.cons (.v 6) .nil))) (.cons (.v 6) .nil)))) .nil)) (.app sTupOf (.cons (.v 2) .nil)) (.c .non)))
def c_l_read (p__law_path : G.Spec) (p__law_shown : G.Spec) : S := (.seq (c_l_read_1 p__law_path p__law_shown) (.seq (c_l_read_8 p__law_path p__law_shown) (.seq (.frz 2) (.seq (c_l_read_10 p__law_path p__law_shown) (.seq (c_l_read_11 p__law_path p__law_shown) (c_l_read_12 p__law_path p__law_shown))))))
abbrev N__law_read : List Str := ["_law_text_in", "_law_words", "_law_row", "_law_node", "_law_word", "_law_ends", "_law_end", "_law_above", "_law_sign"]
theorem sc__law_read : FnScope N__law_read ["_law_text_in"] (defScope s__law_read) := ⟨rfl, rfl, rfl, by decide +kernel, rfl, by decide +kernel, by decide +kernel⟩
theorem js__law_read {P : Program} {w : World} {K : PySem.W.Frag} {mg : Str → Option Value} {base : Heap} {k : Nat} (n_all : mg "all" = none) (n_int : mg "int" = none) (n_len : mg "len" = none) (n_range : mg "range" = none) (n_tuple : mg "tuple" = none) {p__law_path : G.Spec} {k__law_path n__law_path : Nat} (F__law_path : Fn P w K mg base "_law_path" k__law_path n__law_path p__law_path) (l__law_path : k__law_path ≤ k) {p__law_shown : G.Spec} {k__law_shown n__law_shown : Nat} (F__law_shown : Fn P w K mg base "_law_shown" k__law_shown n__law_shown p__law_shown) (l__law_shown : k__law_shown ≤ k) {f : Addr} {cdv : Value} {A : Around} {outer : List Env} {s : Shared} {H : Hp} {E : XK}
    (C : Ct (cxOf (L2N.CX P w) P w K mg base N__law_read "_law_read" (defScope s__law_read) f cdv A outer s H E) (wxOf E) k) :
    JSs (cxOf (L2N.CX P w) P w K mg base N__law_read "_law_read" (defScope s__law_read) f cdv A outer s H E) (wxOf E) (defBody s__law_read) (c_l_read p__law_path p__law_shown) :=
  (jss_cons (js_asg (own := [1, 2]) (j_tup (ja_cons (je_if (jt_ne C.hu (j_v 0) j_str) (j_split (j_v 0) j_str) (j_list (k := 0) ja_nil)) (ja_cons (j_listM ja_nil) ja_nil))) (jg_tup rfl (jgs_cons (jg_nm 1 C.hN rfl (by first | exact Or.inl rfl | exact Or.inr rfl) (by decide)) (jgs_cons (jg_nm 2 C.hN rfl (by first | exact Or.inl rfl | exact Or.inr rfl) (by decide)) jgs_nil))))
  (jss_cons (js_for (own := [3]) C.hp rfl (ji_rng1 (by rfl) n_range (j_len (by rfl) n_len (j_v 1))) (jg_nm 3 C.hN rfl (by first | exact Or.inl rfl | exact Or.inr rfl) (by decide)) (jss_cons (js_set 4 C.hN rfl (by first | exact Or.inl rfl | exact Or.inr rfl) (j_ix (j_v 1) (j_v 3)))
  (jss_one (js_if (jt_eq C.hu (j_v 4) j_str) (jss_one (js_exp (j_append (j_v 2) (j_v 3)))) (jss_one (js_if (jt_w (jw_or (jt_eq C.hu (j_v 4) j_str) (jw_or (jt_gt (j_len (by rfl) n_len (j_v 4)) j_int) (jw_or1 (jt_not (jt_val (j_all rfl (by rfl) n_all (j_comp false (own := [("_law_sign", 8)]) rfl C.hN (ji_str (j_v 4)) (blkOk_by (N := N__law_read) (sc := defScope s__law_read) (own := [("_law_sign", 8)]) (by decide +kernel)) (fun _ _ _ _ _ => (jg_nm 8 C.hN rfl (by first | exact Or.inl rfl | exact Or.inr rfl) (by decide))) (fun _ _ _ _ _ => jts_nil) (fun _ _ _ _ _ => (j_inStr (j_v 8) j_str)))))))))) (jss_one (js_ret j_non)) (jss_one (js_exp (j_append (j_v 2) (j_intS (by rfl) n_int (j_v 4)))))))))))
  (jss_frz 2 (jss_cons (js_if (jt_w (jw_or (jt_gt (j_len (by rfl) n_len (j_v 2)) j_int) (jw_or (jt_not (jt_val (j_all rfl (by rfl) n_all (j_comp false (own := [("_law_above", 7)]) rfl C.hN (ji_seq (j_v 2)) (blkOk_by (N := N__law_read) (sc := defScope s__law_read) (own := [("_law_above", 7)]) (by decide +kernel)) (fun _ _ _ _ _ => (jg_nm 7 C.hN rfl (by first | exact Or.inl rfl | exact Or.inr rfl) (by decide))) (fun _ _ _ _ _ => jts_nil) (fun _ _ _ _ _ => (j_lt (j_v 7) (j_len (by rfl) n_len (j_v 2)))))))) (jw_or1 (jt_ne C.hu (j_call F__law_shown (C.hr.mono l__law_shown) C.tk (by rfl) (ja_cons (j_tupOf (by rfl) n_tuple (j_v 2)) ja_nil)) (j_v 0)))))) (jss_one (js_ret j_non)) jss_nil)
  (jss_cons (js_setc 5 false (own := [("_law_node", 3)]) rfl C.hN rfl rfl (sw_true rfl rfl rfl (by decide +kernel)) (ji_rng1 (by rfl) n_range (j_len (by rfl) n_len (j_v 2))) (blkOk_by (N := N__law_read) (sc := defScope s__law_read) (own := [("_law_node", 3)]) (by decide +kernel)) (fun _ _ _ _ _ => (jg_nm 3 C.hN rfl (by first | exact Or.inl rfl | exact Or.inr rfl) (by decide))) (fun _ _ _ _ _ => jts_nil) (fun _ _ _ _ _ => (j_ix (j_call F__law_path (C.hr.mono l__law_path) takesN (by rfl) (ja_cons (j_v 2) (ja_cons (j_v 3) ja_nil))) (j_neg j_int))))
  (jss_one (js_ret (je_if (jt_val (j_all rfl (by rfl) n_all (j_comp false (own := [("_law_end", 6)]) rfl C.hN (ji_seq (j_v 5)) (blkOk_by (N := N__law_read) (sc := defScope s__law_read) (own := [("_law_end", 6)]) (by decide +kernel)) (fun _ _ _ _ _ => (jg_nm 6 C.hN rfl (by first | exact Or.inl rfl | exact Or.inr rfl) (by decide))) (fun _ _ _ _ _ => jts_nil) (fun _ _ _ _ _ => (j_eq C.hu (j_ix (j_v 2) (j_v 6)) (j_v 6)))))) (j_tupOf (by rfl) n_tuple (j_v 2)) j_non))))))))
def c_law_1 (p__law_of : G.Spec) (p__law_read : G.Spec) (p__law_same : G.Spec) (p__law_shown : G.Spec) (p__law_some_forest : G.Spec) (p__law_start : G.Spec) (p__law_take : G.Spec) (p_format_forest : G.Spec) (p_parse_forest : G.Spec) : S := (.asg (.nm 1) (.app p__law_start (.cons (.v 0) .nil)))
def c_law_2 (p__law_of : G.Spec) (p__law_read : G.Spec) (p__law_same : G.Spec) (p__law_shown : G.Spec) (p__law_some_forest : G.Spec) (p__law_start : G.Spec) (p__law_take : G.Spec) (p_format_forest : G.Spec) (p_parse_forest : G.Spec) : S := (.asg (.nm 3) (.app p__law_some_forest (.cons (.v 1) (.cons (.c (.int 40)) .nil))))
def c_law_3 (p__law_of : G.Spec) (p__law_read : G.Spec) (p__law_same : G.Spec) (p__law_shown : G.Spec) (p__law_some_forest : G.Spec) (p__law_start : G.Spec) (p__law_take : G.Spec) (p_format_forest : G.Spec) (p_parse_forest : G.Spec) : S := (.asg (.nm 11) (.app p__law_shown (.cons (.v 3) .nil)))
def c_law_4 (p__law_of : G.Spec) (p__law_read : G.Spec) (p__law_same : G.Spec) (p__law_shown : G.Spec) (p__law_some_forest : G.Spec) (p__law_start : G.Spec) (p__law_take : G.Spec) (p_format_forest : G.Spec) (p_parse_forest : G.Spec) : S := (.ret (.c (.bl false)))
def c_law_5 (p__law_of : G.Spec) (p__law_read : G.Spec) (p__law_same : G.Spec) (p__law_shown : G.Spec) (p__law_some_forest : G.Spec) (p__law_start : G.Spec) (p__law_take : G.Spec) (p_format_forest : G.Spec) (p_parse_forest : G.Spec) : S := (.ite (.app sNot (.cons (.app p__law_same (.cons (.app sList (.cons (.app p_format_forest (.cons (.v 3) .nil)) (.cons (.appk 0 1 [0] p_format_forest .nil (.cons (.v 3) .nil)) (.cons (.app p_parse_forest (.cons (.v 11) .nil)) .nil)))) (.cons (.app sList (.cons (.v 11) (.cons (.v 11) (.cons (.v 3) .nil)))) .nil))) .nil)) (c_law_4 p__law_of p__law_read p__law_same p__law_shown p__law_some_forest p__law_start p__law_take p_format_forest p_parse_forest) .skip)
def c_law_6 (p__law_of : G.Spec) (p__law_read : G.Spec) (p__law_same : G.Spec) (p__law_shown : G.Spec) (p__law_some_forest : G.Spec) (p__law_start : G.Spec) (p__law_take : G.Spec) (p_format_forest : G.Spec) (p_parse_forest : G.Spec) : S := (.asg (.tup (.cons (.nm 5) (.cons (.nm 6) .nil))) (.app sTup (.cons (.app p__law_take (.cons (.v 1) (.cons (.app sAdd (.cons (.app sLen (.cons (.v 11) .nil)) (.cons (.c (.int 1)) .nil))) .nil))) (.cons (.app p__law_of (.cons (.v 1) (.cons (.app sList (.cons (.c (.str " ")) (.cons (.c (.str "-")) (.cons (.c (.str "0")) (.cons (.c (.str "1")) (.cons (.c (.str "9")) (.cons (.c (.str "")) (.cons (.c (.str " 0")) (.cons (.c (.str "- ")) (.cons (.c (.str "x")) (.cons (.c (.str ">")) .nil))))))))))) .nil))) .nil))))
def c_law_7 (p__law_of : G.Spec) (p__law_read : G.Spec) (p__law_same : G.Spec) (p__law_shown : G.Spec) (p__law_some_forest : G.Spec) (p__law_start : G.Spec) (p__law_take : G.Spec) (p_format_forest : G.Spec) (p_parse_forest : G.Spec) : S := (.asg (.nm 11) (.app sAdd (.cons (.app sAdd (.cons (.app sCutHiA (.cons (.v 11) (.cons (.v 5) .nil))) (.cons (.v 6) .nil))) (.cons (.app sCutLoA (.cons (.v 11) (.cons (.app sAdd (.cons (.v 5) (.cons (.app p__law_take (.cons (.v 1) (.cons (.c (.int 2)) .nil))) .nil))) .nil))) .nil))))
def c_law_8 (p__law_of : G.Spec) (p__law_read : G.Spec) (p__law_same : G.Spec) (p__law_shown : G.Spec) (p__law_some_forest : G.Spec) (p__law_start : G.Spec) (p__law_take : G.Spec) (p_format_forest : G.Spec) (p_parse_forest : G.Spec) : S := (.fr (.nm 4) iRng1 (.cons (.app p__law_take (.cons (.v 1) (.cons (.c (.int 4)) .nil))) .nil) (.seq (c_law_6 p__law_of p__law_read p__law_same p__law_shown p__law_some_forest p__law_start p__law_take p_format_forest p_parse_forest) (c_law_7 p__law_of p__law_read p__law_same p__law_shown p__law_some_forest p__law_start p__law_take p_format_forest p_parse_forest)))
def c_law_9 (p__law_of : G.Spec) (p__law_read : G.Spec) (p__law_same : G.Spec) (p__law_shown : G.Spec) (p__law_some_forest : G.Spec) (p__law_start : G.Spec) (p__law_take : G.Spec) (p_format_forest : G.Spec) (p_parse_forest : G.Spec) : S := (.asg (.nm 7) (.app p__law_read (.cons (.v 11) .nil)))
def c_law_10 (p__law_of : G.Spec) (p__law_read : G.Spec) (p__law_same : G.Spec) (p__law_shown : G.Spec) (p__law_some_forest : G.Spec) (p__law_start : G.Spec) (p__law_take : G.Spec) (p_format_forest : G.Spec) (p_parse_forest : G.Spec) : S := (.asg (.nm 8) (.ite (.app sIsN (.cons (.v 7) (.cons (.c .non) .nil))) (.app sTup (.cons (.c .non) (.cons (.c (.str "ParseError")) (.cons (.c (.int 0)) .nil)))) (.app sTup (.cons (.v 7) (.cons (.c (.str "")) (.cons (.c .non) .nil))))))
def c_law_11 (p__law_of : G.Spec) (p__law_read : G.Spec) (p__law_same : G.Spec) (p__law_shown : G.Spec) (p__law_some_forest : G.Spec) (p__law_start : G.Spec) (p__law_take : G.Spec) (p_format_forest : G.Spec) (p_parse_forest : G.Spec) : S := (.ret (.c (.bl false)))
def c_law_12 (p__law_of : G.Spec) (p__law_read : G.Spec) (p__law_same : G.Spec) (p__law_shown : G.Spec) (p__law_some_forest : G.Spec) (p__law_start : G.Spec) (p__law_take : G.Spec) (p_format_forest : G.Spec) (p_parse_forest : G.Spec) : S := (.ite (.app sNot (.cons (.app p__law_same (.cons (.out false (.appk 0 1 [0] p_parse_forest .nil (.cons (.v 11) .nil))) (.cons (.v 8) .nil))) .nil)) (c_law_11 p__law_of p__law_read p__law_same p__law_shown p__law_some_forest p__law_start p__law_take p_format_forest p_parse_forest) .skip)
def c_law_13 (p__law_of : G.Spec) (p__law_read : G.Spec) (p__law_same : G.Spec) (p__law_shown : G.Spec) (p__law_some_forest : G.Spec) (p__law_start : G.Spec) (p__law_take : G.Spec) (p_format_forest : G.Spec) (p_parse_forest : G.Spec) : S := (.fr (.nm 2) iRng1 (.cons (.c (.int 6)) .nil) (.seq (c_law_2 p__law_of p__law_read p__law_same p__law_shown p__law_some_forest p__law_start p__law_take p_format_forest p_parse_forest) (.seq (c_law_3 p__law_of p__law_read p__law_same p__law_shown p__law_some_forest p__law_start p__law_take p_format_forest p_parse_forest) (.seq (c_law_5 p__law_of p__law_read p__law_same p__law_shown p__law_some_forest p__law_start p__law_take p_format_forest p_parse_forest) (.seq (c_law_8 p__law_of p__law_read p__law_same p__law_shown p__law_some_forest p__law_start p__law_take p_format_forest p_parse_forest) (.seq (c_law_9 p__law_of p__law_read p__law_same p__law_shown p__law_some_forest p__law_start p__law_take p_format_forest p_parse_forest) (.seq (c_law_10 p__law_of p__law_read p__law_same p__law_shown p__law_some_forest p__law_start p__law_take p_format_forest p_parse_forest) (c_law_12 p__law_of p__law_read p__law_same p__law_shown p__law_some_forest p__law_start p__law_take p_format_forest p_parse_forest))))))))
def c_law_14 (p__law_of : G.Spec) (p__law_read : G.Spec) (p__law_same : G.Spec) (p__law_shown : G.Spec) (p__law_some_forest : G.Spec) (p__law_start : G.Spec) (p__law_take : G.Spec) (p_format_forest : G.Spec) (p_parse_forest : G.Spec) : S := (.asg (.nm 9) (.app sList (.cons (.c (.str " ")) (.cons (.c (.str "- ")) (.cons (.c (.str " -")) (.cons (.c (.str "0")) (.cons (.c (.str "1 0")) (.cons (.c (.str "- -1")) (.cons (.c (.str "- 00")) (.cons (.c (.str "- 2")) (.cons (.c (.str "-  0")) (.cons (.c (.str "- 0\n")) (.cons (.c (.str "- +0")) (.cons (.c (.str "1 2 0")) (.cons (.app sAdd (.cons (.app sMulS (.cons (.c (.str "- ")) (.cons (.c (.int 40)) .nil))) (.cons (.c (.str "-")) .nil))) .nil)))))))))))))))
def c_law_15 (p__law_of : G.Spec) (p__law_read : G.Spec) (p__law_same : G.Spec) (p__law_shown : G.Spec) (p__law_some_forest : G.Spec) (p__law_start : G.Spec) (p__law_take : G.Spec) (p_format_forest : G.Spec) (p_parse_forest : G.Spec) : S := (.asg (.nm 10) (.app sList (.cons (.c (.str "")) (.cons (.c (.str "-")) (.cons (.c (.str "- 0")) (.cons (.c (.str "1 -")) (.cons (.meth chkS sJoin (.c (.str " ")) (.cons (.app sRep (.cons (.app sList (.cons (.c (.str "-")) .nil)) (.cons (.c (.int 40)) .nil))) .nil)) .nil)))))))
def c_law_16 (p__law_of : G.Spec) (p__law_read : G.Spec) (p__law_same : G.Spec) (p__law_shown : G.Spec) (p__law_some_forest : G.Spec) (p__law_start : G.Spec) (p__law_take : G.Spec) (p_format_forest : G.Spec) (p_parse_forest : G.Spec) : S := (.ret (.and (.app sEq (.cons (.comp false [12] (.nm 12) iSeq (.cons (.v 9) .nil) (.c (.bl true)) (.out true (.app p_parse_forest (.cons (.v 12) .nil)))) (.cons (.app sRep (.cons (.app sList (.cons (.app sTup (.cons (.c (.str "ParseError")) (.cons (.c (.int 0)) .nil))) .nil)) (.cons (.c (.int 13)) .nil))) .nil))) (.app sEq (.cons (.comp false [12] (.nm 12) iSeq (.cons (.v 10) .nil) (.c (.bl true)) (.app p_format_forest (.cons (.app p_parse_forest (.cons (.v 12) .nil)) .nil))) (.cons (.v 10) .nil)))))
def c_law (p__law_of : G.Spec) (p__law_read : G.Spec) (p__law_same : G.Spec) (p__law_shown : G.Spec) (p__law_some_forest : G.Spec) (p__law_start : G.Spec) (p__law_take : G.Spec) (p_format_forest : G.Spec) (p_parse_forest : G.Spec) : S := (.seq (c_law_1 p__law_of p__law_read p__law_same p__law_shown p__law_some_forest p__law_start p__law_take p_format_forest p_parse_forest) (.seq (c_law_13 p__law_of p__law_read p__law_same p__law_shown p__law_some_forest p__law_start p__law_take p_format_forest p_parse_forest) (.seq (c_law_14 p__law_of p__law_read p__law_same p__law_shown p__law_some_forest p__law_start p__law_take p_format_forest p_parse_forest) (.seq (c_law_15 p__law_of p__law_read p__law_same p__law_shown p__law_some_forest p__law_start p__law_take p_format_forest p_parse_forest) (c_law_16 p__law_of p__law_read p__law_same p__law_shown p__law_some_forest p__law_start p__law_take p_format_forest p_parse_forest)))))
abbrev N_law : List Str := ["_law_script", "_law_draw", "_law_turn", "_law_forest_in", "_law_step", "_law_at", "_law_sign", "_law_due", "_law_expected", "_law_odd", "_law_good", "_law_text_in", "_law_one"]
theorem sc_law : FnScope N_law ["_law_script"] (defScope s_law) := ⟨rfl, rfl, rfl, by decide +kernel, rfl, by decide +kernel, by decide +kernel⟩
theorem js_law {P : Program} {w : World} {K : PySem.W.Frag} {mg : Str → Option Value} {base : Heap} {k : Nat} (n_len : mg "len" = none) (n_range : mg "range" = none) {p__law_of : G.Spec} {k__law_of n__law_of : Nat} (F__law_of : Fn P w K mg base "_law_of" k__law_of n__law_of p__law_of) (l__law_of : k__law_of ≤ k) {p__law_read : G.Spec} {k__law_read n__law_read : Nat} (F__law_read : Fn P w K mg base "_law_read" k__law_read n__law_read p__law_read) (l__law_read : k__law_read ≤ k) {p__law_same : G.Spec} {k__law_same n__law_same : Nat} (F__law_same : Fn P w K mg base "_law_same" k__law_same n__law_same p__law_same) (l__law_same : k__law_same ≤ k) {p__law_shown : G.Spec} {k__law_shown n__law_shown : Nat} (F__law_shown : Fn P w K mg base "_law_shown" k__law_shown n__law_shown p__law_shown) (l__law_shown : k__law_shown ≤ k) {p__law_some_forest : G.Spec} {k__law_some_forest n__law_some_forest : Nat} (F__law_some_forest : Fn P w K mg base "_law_some_forest" k__law_some_forest n__law_some_forest p__law_some_forest) (l__law_some_forest : k__law_some_forest ≤ k) {p__law_start : G.Spec} {k__law_start n__law_start : Nat} (F__law_start : Fn P w K mg base "_law_start" k__law_start n__law_start p__law_start) (l__law_start : k__law_start ≤ k) {p__law_take : G.Spec} {k__law_take n__law_take : Nat} (F__law_take : Fn P w K mg base "_law_take" k__law_take n__law_take p__law_take) (l__law_take : k__law_take ≤ k) {p_format_forest : G.Spec} {k_format_forest n_format_forest : Nat} (F_format_forest : Fn P w K mg base "format_forest" k_format_forest n_format_forest p_format_forest) (l_format_forest : k_format_forest ≤ k) {p_parse_forest : G.Spec} {k_parse_forest n_parse_forest : Nat} (F_parse_forest : Fn P w K mg base "parse_forest" k_parse_forest n_parse_forest p_parse_forest) (l_parse_forest : k_parse_forest ≤ k) {j : Nat} {c1 c2 c3 : Value} (ER : Errs K mg c1 c2 c3) (O__law_error : OutOk P w K mg base 4 true c1 c2 c3 "_law_error") (l__law_error : j + 4 ≤ k) (O__law_outcome : OutOk P w K mg base 3 false c1 c2 c3 "_law_outcome") (l__law_outcome : j + 3 ≤ k) (lj_parse_forest : k_parse_forest ≤ j) (K_format_forest_0_forest : FnK P w K mg base "format_forest" k_format_forest 0 ["forest"] [0] p_format_forest) (K_parse_forest_0_text : FnK P w K mg base "parse_forest" k_parse_forest 0 ["text"] [0] p_parse_forest) {f : Addr} {cdv : Value} (LK : LamK K mg base cdv "law") {A : Around} {outer : List Env} {s : Shared} {H : Hp} {E : XK}
    (C : Ct (cxOf (L2N.CX P w) P w K mg base N_law "law" (defScope s_law) f cdv A outer s H E) (wxOf E) k) :
    JSs (cxOf (L2N.CX P w) P w K mg base N_law "law" (defScope s_law) f cdv A outer s H E) (wxOf E) (defBody s_law) (c_law p__law_of p__law_read p__law_same p__law_shown p__law_some_forest p__law_start p__law_take p_format_forest p_parse_forest) :=
  (jss_cons (js_set 1 C.hN rfl (by first | exact Or.inl rfl | exact Or.inr rfl) (j_call F__law_start (C.hr.mono l__law_start) C.tk (by rfl) (ja_cons (j_v 0) ja_nil)))
  (jss_cons (js_for (own := [2]) C.hp rfl (ji_rng1 (by rfl) n_range j_int) (jg_nm 2 C.hN rfl (by first | exact Or.inl rfl | exact Or.inr rfl) (by decide)) (jss_cons (js_set 3 C.hN rfl (by first | exact Or.inl rfl | exact Or.inr rfl) (j_call F__law_some_forest (C.hr.mono l__law_some_forest) C.tk (by rfl) (ja_cons (j_v 1) (ja_cons j_int ja_nil))))
  (jss_cons (js_set 11 C.hN rfl (by first | exact Or.inl rfl | exact Or.inr rfl) (j_call F__law_shown (C.hr.mono l__law_shown) C.tk (by rfl) (ja_cons (j_v 3) ja_nil)))
  (jss_cons (js_if (jt_not (jt_val (j_call F__law_same (C.hr.mono l__law_same) C.tk (by rfl) (ja_cons (j_list (k := 0) (ja_cons (j_call F_format_forest (C.hr.mono l_format_forest) C.tk (by rfl) (ja_cons (j_v 3) ja_nil)) (ja_cons (j_callk0 K_format_forest_0_forest (C.hr.mono l_format_forest) C.tk (by rfl) (jk_cons (j_v 3) jk_nil)) (ja_cons (j_call F_parse_forest (C.hr.mono l_parse_forest) C.tk (by rfl) (ja_cons (j_v 11) ja_nil)) ja_nil)))) (ja_cons (j_list (k := 0) (ja_cons (j_v 11) (ja_cons (j_v 11) (ja_cons (j_v 3) ja_nil)))) ja_nil))))) (jss_one (js_ret j_bl)) jss_nil)
  (jss_cons (js_for (own := [4]) C.hp rfl (ji_rng1 (by rfl) n_range (j_call F__law_take (C.hr.mono l__law_take) C.tk (by rfl) (ja_cons (j_v 1) (ja_cons j_int ja_nil)))) (jg_nm 4 C.hN rfl (by first | exact Or.inl rfl | exact Or.inr rfl) (by decide)) (jss_cons (js_par 5 6 rfl C.hN rfl rfl (by decide) rfl rfl (j_call F__law_take (C.hr.mono l__law_take) C.tk (by rfl) (ja_cons (j_v 1) (ja_cons (j_add (j_len (by rfl) n_len (j_v 11)) j_int) ja_nil))) (j_call F__law_of (C.hr.mono l__law_of) C.tk (by rfl) (ja_cons (j_v 1) (ja_cons (j_list (k := 0) (ja_cons j_str (ja_cons j_str (ja_cons j_str (ja_cons j_str (ja_cons j_str (ja_cons j_str (ja_cons j_str (ja_cons j_str (ja_cons j_str (ja_cons j_str ja_nil))))))))))) ja_nil))) (by rfl))
  (jss_one (js_set 11 C.hN rfl (by first | exact Or.inl rfl | exact Or.inr rfl) (j_add (j_add (j_cutHiA (j_v 11) (j_v 5)) (j_v 6)) (j_cutLoA (j_v 11) (j_add (j_v 5) (j_call F__law_take (C.hr.mono l__law_take) C.tk (by rfl) (ja_cons (j_v 1) (ja_cons j_int ja_nil))))))))))
  (jss_cons (js_set 7 C.hN rfl (by first | exact Or.inl rfl | exact Or.inr rfl) (j_call F__law_read (C.hr.mono l__law_read) C.tk (by rfl) (ja_cons (j_v 11) ja_nil)))
  (jss_cons (js_set 8 C.hN rfl (by first | exact Or.inl rfl | exact Or.inr rfl) (je_if (jt_isN (j_v 7) j_non) (j_tup (ja_cons j_non (ja_cons j_str (ja_cons j_int ja_nil)))) (j_tup (ja_cons (j_v 7) (ja_cons j_str (ja_cons j_non ja_nil))))))
  (jss_one (js_if (jt_not (jt_val (j_call F__law_same (C.hr.mono l__law_same) C.tk (by rfl) (ja_cons (j_out (t := ⟨("law" : Str) ++ ".<locals>." ++ "<lambda>", _, _, _, []⟩) (j := j) O__law_outcome ER (LK.c rfl) (lamN_by (by kernel_rfl)) (.inl ⟨rfl, fun _ _ _ _ => rfl⟩) C.hN (C.hr.mono l__law_outcome) C.tk (by rfl) (.inl ⟨rfl, rfl⟩) (fun _ _ _ _ _ _ _ C => (j_callk0 K_parse_forest_0_text (C.hr.mono lj_parse_forest) C.tk (by rfl) (jk_cons (j_v 11) jk_nil)))) (ja_cons (j_v 8) ja_nil))))) (jss_one (js_ret j_bl)) jss_nil)))))))))
  (jss_cons (js_set 9 C.hN rfl (by first | exact Or.inl rfl | exact Or.inr rfl) (j_list (k := 0) (ja_cons j_str (ja_cons j_str (ja_cons j_str (ja_cons j_str (ja_cons j_str (ja_cons j_str (ja_cons j_str (ja_cons j_str (ja_cons j_str (ja_cons j_str (ja_cons j_str (ja_cons j_str (ja_cons (j_add (j_mulS j_str j_int) j_str) ja_nil)))))))))))))))
  (jss_cons (js_set 10 C.hN rfl (by first | exact Or.inl rfl | exact Or.inr rfl) (j_list (k := 0) (ja_cons j_str (ja_cons j_str (ja_cons j_str (ja_cons j_str (ja_cons (j_join j_str (j_rep (j_list (k := 0) (ja_cons j_str ja_nil)) j_int)) ja_nil)))))))
  (jss_one (js_ret (je_and (j_eq C.hu (j_comp false (own := [("_law_one", 12)]) rfl C.hN (ji_seq (j_v 9)) (blkOk_by (N := N_law) (sc := defScope s_law) (own := [("_law_one", 12)]) (by decide +kernel)) (fun _ _ _ _ _ => (jg_nm 12 C.hN rfl (by first | exact Or.inl rfl | exact Or.inr rfl) (by decide))) (fun _ _ _ _ _ => jts_nil) (fun _ _ _ _ _ => (j_out (t := ⟨("law" : Str) ++ ".<locals>." ++ "<lambda>", _, _, _, []⟩) (j := j) O__law_error ER (LK.c rfl) (lamN_by (by kernel_rfl)) (.inl ⟨rfl, fun _ _ _ _ => rfl⟩) C.hN (C.hr.mono l__law_error) takesN (by rfl) (.inl ⟨rfl, rfl⟩) (fun _ _ _ _ _ _ _ C => (j_call F_parse_forest (C.hr.mono lj_parse_forest) C.tk (by rfl) (ja_cons (j_v 12) ja_nil)))))) (j_rep (j_list (k := 0) (ja_cons (j_tup (ja_cons j_str (ja_cons j_int ja_nil))) ja_nil)) j_int)) (je_one (j_eq C.hu (j_comp false (own := [("_law_one", 12)]) rfl C.hN (ji_seq (j_v 10)) (blkOk_by (N := N_law) (sc := defScope s_law) (own := [("_law_one", 12)]) (by decide +kernel)) (fun _ _ _ _ _ => (jg_nm 12 C.hN rfl (by first | exact Or.inl rfl | exact Or.inr rfl) (by decide))) (fun _ _ _ _ _ => jts_nil) (fun _ _ _ _ _ => (j_call F_format_forest (C.hr.mono l_format_forest) takesN (by rfl) (ja_cons (j_call F_parse_forest (C.hr.mono l_parse_forest) takesN (by rfl) (ja_cons (j_v 12) ja_nil)) ja_nil)))) (j_v 10))))))))))
end K49

namespace G
open PySem (Str)
open PySem.NumText
/-- a word: the parent's number, or a dash -/
def wdT (p : List Nat) (i : Nat) : List Nat := if par p i = i then [45] else TL.numL (par p i)
def shw (p : List Nat) : List Nat := TL.joinL [32] ((List.range p.length).map (wdT p))
def words (t : List Nat) : List (List Nat) := if t = [] then [] else TL.spl [32] 0 [] t
theorem wd_free {p : List Nat} {i : Nat} : 32 ∉ wdT p i := by
  unfold wdT
  split
  · simp
  · exact TL.numL_free (.inl (by decide))
theorem wd_ne {p : List Nat} {i : Nat} : wdT p i ≠ [] := by
  unfold wdT
  split
  · simp
  · exact TL.numL_ne _
/-- digits without a zero ahead are the number's own -/
theorem canon {cs : List Nat} (h : AllDigits cs) (h0 : cs ≠ []) (hh : cs.length = 1 ∨ ∃ c r, cs = c :: r ∧ 49 ≤ c) : TL.numL (digitsVal cs) = cs := by
  have hl : 0 < cs.length := List.length_pos_iff.mpr h0
  have := toDigits_digitsVal (cs.length - 1) cs (by omega) h (by
    rcases hh with hh | hh
    · left; omega
    · right; exact hh)
  show (Nat.toDigits 10 (digitsVal cs)).map Char.toNat = cs
  rw [this, List.map_map]
  refine (List.map_congr_left fun c hc => ?_).trans (List.map_id cs)
  have := h c hc
  show (Char.ofNat c).toNat = c
  have aux : ∀ c, c < 58 → (Char.ofNat c).toNat = c := by decide +kernel
  exact aux c (by omega)
theorem join_spl : ∀ (t acc : List Nat), TL.joinL [32] (TL.spl [32] 0 acc t) = acc ++ t
  | [], acc => by
    rw [TL.spl_nil]
    simp [TL.joinL]
  | c :: r, acc => by
    by_cases h : c = 32
    · subst h
      rw [TL.spl_hit (by rfl)]
      show TL.joinL [32] (acc :: TL.spl [32] 0 [] r) = _
      have ih := join_spl r []
      cases e : TL.spl [32] 0 [] r with
      | nil => rw [e] at ih; simp [TL.joinL] at ih; subst ih; simp [TL.spl] at e
      | cons a l =>
        rw [e] at ih
        simp only [TL.joinL, List.nil_append] at ih ⊢
        simp [ih]
    · rw [TL.spl_miss (by simp [TL.pre, h])]
      rw [join_spl r (acc ++ [c])]
      simp
theorem shw_ne {p : List Nat} (h : p ≠ []) : shw p ≠ [] := by
  have hl := List.length_pos_iff.mpr h
  obtain ⟨n, hn⟩ : ∃ n, p.length = n + 1 := ⟨p.length - 1, by omega⟩
  unfold shw
  rw [hn, List.range_succ_eq_map, List.map_cons]
  intro z
  cases e : (List.map Nat.succ (List.range n)).map (wdT p) with
  | nil => rw [e] at z; exact wd_ne z
  | cons a l =>
    rw [e] at z
    simp only [TL.joinL, List.append_eq_nil_iff] at z
    exact wd_ne z.1
/-- the words of a shown forest -/
theorem words_shw {p : List Nat} : words (shw p) = (List.range p.length).map (wdT p) := by
  by_cases h : p = []
  · subst h
    rfl
  · unfold words
    rw [if_neg (shw_ne h)]
    have hl := List.length_pos_iff.mpr h
    refine SX.spl_join (fun z => ?_) fun w hw => ?_
    · have := congrArg List.length z
      simp at this
      exact h this
    · obtain ⟨i, _, rfl⟩ := List.mem_map.mp hw
      exact wd_free
/-- a text is its words, joined -/
theorem join_words (t : List Nat) : TL.joinL [32] (words t) = t := by
  unfold words
  by_cases h : t = []
  · rw [if_pos h, h]
    rfl
  · rw [if_neg h]
    exact join_spl t []
/-- a text whose words are a forest's is the forest shown -/
theorem shw_of {p t : List Nat} (h : words t = (List.range p.length).map (wdT p)) : t = shw p := by
  rw [← join_words t, h]
  rfl
end G

namespace G
open PySem (Str)
open PySem.NumText
def isDg (c : Nat) : Bool := decide (48 ≤ c) && decide (c ≤ 57)
def dg (w : List Nat) : List Nat := if w.take 1 = [45] then w.drop 1 else w
/-- what parse_number tells of a word -/
def pnum (w : List Nat) : Option Int :=
  if 1 ≤ (dg w).length ∧ (dg w).length ≤ 31 ∧ (dg w).all isDg = true then
    (if (dg w).take 1 = [48] ∧ w ≠ [48] then none else some (if w.take 1 = [45] then -((digitsVal (dg w) : Nat) : Int) else ((digitsVal w : Nat) : Int)))
  else none
theorem all_dg {cs : List Nat} (h : cs.all isDg = true) : AllDigits cs := fun c hc => by
  have := List.all_eq_true.mp h c hc
  unfold isDg at this
  simp only [Bool.and_eq_true, decide_eq_true_eq] at this
  exact this
/-- a number that is not below zero is written one way alone -/
theorem pnum_nat {w : List Nat} {k : Nat} (h : pnum w = some ((k : Nat) : Int)) : w = TL.numL k := by
  unfold pnum at h
  split at h
  · rename_i hc
    obtain ⟨h1, h2, h3⟩ := hc
    split at h
    · cases h
    · rename_i hz
      have hd := all_dg h3
      have hne : dg w ≠ [] := fun z => by rw [z] at h1; simp at h1
      by_cases hm : w.take 1 = [45]
      · rw [if_pos hm] at h
        have hv := Option.some.inj h
        obtain ⟨c, r, e⟩ : ∃ c r, dg w = c :: r := by
          cases e : dg w with
          | nil => exact (hne e).elim
          | cons c r => exact ⟨c, r, rfl⟩
        have hc := hd c (by rw [e]; exact List.mem_cons_self)
        have hw : w ≠ [48] := fun z => by rw [z] at hm; cases hm
        have c48 : c ≠ 48 := fun z => hz ⟨by rw [e, z]; rfl, hw⟩
        have := digitsVal_pos (c := c) (cs := r) (by omega)
        rw [← e] at this
        omega
      · rw [if_neg hm] at h
        have hv : digitsVal w = k := by have := Option.some.inj h; omega
        have ed : dg w = w := if_neg hm
        rw [ed] at hd hne hz h1
        rw [← hv, canon hd hne]
        cases w with
        | nil => exact (hne rfl).elim
        | cons c r =>
          by_cases c48 : c = 48
          · subst c48
            by_cases z : (48 :: r) = [48]
            · left; rw [z]; rfl
            · exact (hz ⟨rfl, z⟩).elim
          · right
            have := hd c List.mem_cons_self
            exact ⟨c, r, rfl, by omega⟩
  · cases h
theorem numL_one : ∀ k : Nat, (TL.numL k).take 1 = [48] → k = 0 := by
  intro k
  induction k using Nat.strongRecOn with
  | _ k ih =>
    intro h
    by_cases z : k < 10
    · rw [TL.numL_lt z] at h
      simp at h
      exact h
    · rw [TL.numL_step (by omega)] at h
      have hn : (TL.numL (k / 10)) ≠ [] := TL.numL_ne _
      have h' : (TL.numL (k / 10)).take 1 = [48] := by
        cases e : TL.numL (k / 10) with
        | nil => exact (hn e).elim
        | cons c r => rw [e] at h; simpa using h
      have := ih (k / 10) (by omega) h'
      omega
/-- a number below a thousand, shown, is read -/
theorem pnum_num {k : Nat} (h : k < 1000) : pnum (TL.numL k) = some ((k : Nat) : Int) := by
  have hd := TL.numL_digits k
  have hl : (TL.numL k).length ≤ 3 := TL.numL_len (by decide) (by omega)
  have hn := TL.numL_ne k
  have hl0 : 0 < (TL.numL k).length := List.length_pos_iff.mpr hn
  have hm : ¬ (TL.numL k).take 1 = [45] := fun z => by
    cases e : TL.numL k with
    | nil => exact hn e
    | cons c r =>
      rw [e] at z
      simp at z
      have := hd c (by rw [e]; exact List.mem_cons_self)
      omega
  have ed : dg (TL.numL k) = TL.numL k := if_neg hm
  unfold pnum
  rw [ed, if_pos ⟨by omega, by omega, List.all_eq_true.mpr fun c hc => by
    have := hd c hc
    unfold isDg
    simp
    exact this⟩, if_neg hm, TL.numL_val, if_neg]
  rintro ⟨z, hw⟩
  have := numL_one k z
  subst this
  exact hw (TL.numL_lt (by decide))
end G

namespace G
open PySem (Str)
open PySem.NumText
/-- what parse_parent tells of the i-th word -/
def ppar (i : Nat) (w : List Nat) : Option Int := if w = [45] then some ((i : Nat) : Int) else if pnum w = some ((i : Nat) : Int) then none else pnum w
/-- what the law's reader makes of it -/
def lpar (i : Nat) (w : List Nat) : Option Nat := if w = [45] then some i else if w = [] ∨ 2 < w.length ∨ w.all isDg = false then none else some (digitsVal w)
theorem numL_dash {k : Nat} : TL.numL k ≠ [45] := fun z => by
  have := TL.numL_digits k 45 (by rw [z]; exact List.mem_cons_self)
  omega
theorem ppar_wd {p : List Nat} {i : Nat} (h : par p i < 1000) : ppar i (wdT p i) = some ((par p i : Nat) : Int) := by
  unfold wdT ppar
  by_cases e : par p i = i
  · rw [if_pos e, if_pos rfl, e]
  · rw [if_neg e, if_neg numL_dash, pnum_num h, if_neg (fun z => e (by have := Option.some.inj z; omega))]
theorem wd_of {p : List Nat} {i : Nat} {w : List Nat} (h : ppar i w = some ((par p i : Nat) : Int)) : w = wdT p i := by
  unfold ppar at h
  unfold wdT
  by_cases e : w = [45]
  · rw [if_pos e] at h
    have : par p i = i := by have := Option.some.inj h; omega
    rw [if_pos this, e]
  · rw [if_neg e] at h
    split at h
    · cases h
    · rename_i hn
      have hne : par p i ≠ i := fun z => hn (by rw [h, z])
      rw [if_neg hne]
      exact pnum_nat h
theorem lpar_wd {p : List Nat} {i : Nat} (h : par p i < 100) : lpar i (wdT p i) = some (par p i) := by
  unfold wdT lpar
  by_cases e : par p i = i
  · rw [if_pos e, if_pos rfl, e]
  · have hl : (TL.numL (par p i)).length ≤ 2 := TL.numL_len (by decide) (by omega)
    have ha : (TL.numL (par p i)).all isDg = true := List.all_eq_true.mpr fun c hc => by
      have := TL.numL_digits _ c hc
      unfold isDg
      simp
      exact this
    rw [if_neg e, if_neg numL_dash, if_neg, TL.numL_val]
    rintro (z | z | z)
    · exact TL.numL_ne _ z
    · omega
    · rw [ha] at z; cases z
/-- the program reads no forest but the one that is shown so -/
theorem parse_shw {t p : List Nat} (hl : (words t).length = p.length) (h : ∀ i, i < p.length → ∀ w, (words t)[i]? = some w → ppar i w = some ((par p i : Nat) : Int)) : t = shw p := by
  refine shw_of (List.ext_getElem? fun i => ?_)
  by_cases hi : i < p.length
  · have hw : i < (words t).length := by omega
    rw [List.getElem?_eq_getElem hw, wd_of (h i hi _ (List.getElem?_eq_getElem hw)), List.getElem?_map, List.getElem?_range hi]
    rfl
  · rw [List.getElem?_eq_none (by omega), List.getElem?_eq_none (by simp; omega)]
theorem words_at {p : List Nat} {i : Nat} (hi : i < p.length) : (words (shw p))[i]? = some (wdT p i) := by
  rw [words_shw, List.getElem?_map, List.getElem?_range hi]
  rfl
theorem words_len {p : List Nat} : (words (shw p)).length = p.length := by rw [words_shw]; simp
end G

/-! GEv: expressions with one value that change nothing. -/
namespace G
def Ev (e : E) (σ : Sl) (cs : Cs) (d : D) : Prop := ∀ (Q : KD) (X : KX), Q d cs → wpE e σ cs Q X
def Evs (es : Es) (σ : Sl) (cs : Cs) (ds : List D) : Prop := ∀ (Q : List D → Cs → Prop) (X : KX), Q ds cs → wpEs es σ cs Q X
/-- an operation with one answer -/
def SpD (sp : Spec) (ds : List D) (cs : Cs) (d : D) : Prop := ∀ (Q : KD) (X : KX), Q d cs → sp ds cs Q X
section
variable {σ : Sl} {cs : Cs} {d d' : D} {ds : List D} {a b c e : E} {es : Es} {sp s1 s2 : Spec} {k k' : Bool}
theorem Evs.nil : Evs .nil σ cs [] := fun Q X hQ => by rw [wpEs_nil]; exact hQ
theorem Evs.cons (h : Ev e σ cs d) (hs : Evs es σ cs ds) : Evs (.cons e es) σ cs (d :: ds) := fun Q X hQ => by rw [wpEs_cons]; exact h _ _ (hs _ _ hQ)
theorem Evs.one (h : Ev e σ cs d) : Evs (.cons e .nil) σ cs [d] := .cons h .nil
theorem Evs.two (h : Ev a σ cs d) (h' : Ev b σ cs d') : Evs (.cons a (.cons b .nil)) σ cs [d, d'] := .cons h (.one h')
theorem Evs.three {d2 : D} (h : Ev a σ cs d) (h' : Ev b σ cs d') (h2 : Ev c σ cs d2) : Evs (.cons a (.cons b (.cons c .nil))) σ cs [d, d', d2] := .cons h (.two h' h2)
theorem Ev.app (h : Evs es σ cs ds) (hs : SpD sp ds cs d) : Ev (.app sp es) σ cs d := fun Q X hQ => by rw [wpE_app]; exact h _ _ (hs _ _ hQ)
theorem wpE_or {Q : KD} {X : KX} : wpE (.or a b) σ cs Q X = wpE a σ cs (fun d cs' => match d with
    | .bl k => if k = true then Q (.bl true) cs' else wpE b σ cs' Q X
    | _ => False) X := by first | (rw [wpE]; congr 1) | rw [wpE]
theorem wpE_and {Q : KD} {X : KX} : wpE (.and a b) σ cs Q X = wpE a σ cs (fun d cs' => match d with
    | .bl k => if k = true then wpE b σ cs' Q X else Q (.bl false) cs'
    | _ => False) X := by first | (rw [wpE]; congr 1) | rw [wpE]
theorem Ev.or_t (h : Ev a σ cs (.bl true)) : Ev (.or a b) σ cs (.bl true) := fun Q X hQ => by rw [wpE_or]; exact h _ _ hQ
theorem Ev.or_f (h : Ev a σ cs (.bl false)) (hb : Ev b σ cs (.bl k)) : Ev (.or a b) σ cs (.bl k) := fun Q X hQ => by rw [wpE_or]; exact h _ _ (hb _ _ hQ)
theorem Ev.and_f (h : Ev a σ cs (.bl false)) : Ev (.and a b) σ cs (.bl false) := fun Q X hQ => by rw [wpE_and]; exact h _ _ hQ
theorem Ev.and_t (h : Ev a σ cs (.bl true)) (hb : Ev b σ cs (.bl k)) : Ev (.and a b) σ cs (.bl k) := fun Q X hQ => by rw [wpE_and]; exact h _ _ (hb _ _ hQ)
/-- `or` and `and` of any two -/
theorem Ev.or (h : Ev a σ cs (.bl k)) (hb : k = false → Ev b σ cs (.bl k')) : Ev (.or a b) σ cs (.bl (k || k')) := by
  cases k with
  | true => exact .or_t h
  | false => exact .or_f h (hb rfl)
theorem Ev.and (h : Ev a σ cs (.bl k)) (hb : k = true → Ev b σ cs (.bl k')) : Ev (.and a b) σ cs (.bl (k && k')) := by
  cases k with
  | true => exact .and_t h (hb rfl)
  | false => exact .and_f h
theorem Ev.chain {x y z : D} (ha : Ev a σ cs x) (hb : Ev b σ cs y) (h1 : SpD s1 [x, y] cs (.bl k)) (hc : k = true → Ev c σ cs z ∧ SpD s2 [y, z] cs (.bl k')) : Ev (.chain s1 s2 a b c) σ cs (.bl (k && k')) := fun Q X hQ => by
  simp only [wpE]
  refine ha _ _ (hb _ _ (h1 _ _ ?_))
  cases k with
  | true => exact (hc rfl).1 _ _ ((hc rfl).2 _ _ hQ)
  | false => exact hQ
theorem Ev.not (h : Ev a σ cs (.bl k)) : Ev (.app sNot (.cons a .nil)) σ cs (.bl (!k)) := .app (.one h) fun Q X hQ => hQ
theorem wpS_seq {s t : S} {K : Ends} (h : wpS s σ cs { nx := fun σ' cs' => wpS t σ' cs' K, bk := K.bk, ct := K.ct, rt := K.rt, ex := K.ex }) : wpS (.seq s t) σ cs K := by rw [wpS]; exact h
end
end G

/-! GStoA: named forests: sealed dicts; names; one of them replaced. -/
namespace G
open PySem (Str)
open L2 (Key)
/-! names -/
end G

/-! GUse: small helpers for the laws. -/
namespace G
open PySem (Str)
theorem sEq_refl {x : D} {cs : Cs} {Q : KD} {X : KX} (hx : deref cs x = x) (hp : pur 64 x = true) (hQ : Q (.bl true) cs) : sEq [x, x] cs Q X := by
  rw [sEq_e, hx, eqD_refl 64 _ hp]
  exact ⟨hp, hp, hQ⟩
end G

/-! GUse2: small helpers for the laws: comprehensions, lengths, loops. -/
namespace G
theorem getQ_l {xs : List D} {cs : Cs} : getQ (.lst xs) cs = some xs := rfl
theorem comp_of {α : Type} {p : Pat} {grd : Cs → Prop} {σ : Sl} {tst elt : Sl → Cs → KD → Prop} {Q : List D → Cs → Prop} {cs : Cs} (f : α → D) (t : α → Bool) (g : α → D) (hg : grd cs) : ∀ (l : List α) (acc : List D),
    (∀ x ∈ l, ∃ σ1, bindP p [f x] σ = some σ1 ∧ (∀ K : KD, K (.bl (t x)) cs → tst σ1 cs K) ∧ (t x = true → ∀ K : KD, K (g x) cs → elt σ1 cs K)) →
    acc.length + l.length ≤ lim → Q (acc ++ (l.filter t).map g) cs → compL p grd σ tst elt Q (l.map f) acc cs
  | [], acc, _, _, hQ => ⟨hg, by simpa using hQ⟩
  | x :: xs, acc, h, hl, hQ => by
    obtain ⟨σ1, hb, ht, he⟩ := h x List.mem_cons_self
    refine ⟨hg, ?_⟩
    rw [hb]
    have ih := fun acc => comp_of (tst := tst) (elt := elt) (Q := Q) f t g hg xs acc fun y hy => h y (List.mem_cons_of_mem _ hy)
    have hl2 : acc.length + (xs.length + 1) ≤ lim := by simpa using hl
    refine ht _ ?_
    cases e : t x with
    | true =>
      refine .inl ⟨rfl, he e _ ⟨by omega, ih _ (by simp; omega) ?_⟩⟩
      simpa [e] using hQ
    | false =>
      refine .inr ⟨rfl, ih _ (by omega) ?_⟩
      simpa [e] using hQ
theorem grdS {x : D} {xs : List D} {cs : Cs} (h : isSeq x xs) : grdL x cs cs := by
  rcases h with rfl | rfl <;> trivial
theorem int_beq {a b : Nat} : (((a : Nat) : Int) == ((b : Nat) : Int)) = decide (a = b) := by
  by_cases h : a = b
  · subst h; simp
  · rw [decide_eq_false h]
    exact beq_false_of_ne (by omega)
theorem len_s {x : D} {xs : List D} {cs : Cs} {Q : KD} {X : KX} (h : isSeq x xs) : sLen [x] cs Q X = Q (.int (xs.length : Nat)) cs := by
  rcases h with rfl | rfl <;> rfl
theorem l0 : (([] : List D).length ≤ lim) = True := eq_true (Nat.zero_le _)
theorem l1 {x : D} : ([x].length ≤ lim) = True := eq_true (show 1 ≤ 16777216 by decide)
theorem l2 {x y : D} : ([x, y].length ≤ lim) = True := eq_true (show 2 ≤ 16777216 by decide)
theorem l3 {x y z : D} : ([x, y, z].length ≤ lim) = True := eq_true (show 3 ≤ 16777216 by decide)
theorem l4 {x y z w : D} : ([x, y, z, w].length ≤ lim) = True := eq_true (show 4 ≤ 16777216 by decide)
end G

/-! GLink: a root put under another. -/
namespace G
open PySem (Str)
section
variable {p : List Nat} {c a : Nat}
end
/-! ### the errors -/
def nrE (p : List Nat) (c : Int) : Option (Str × Int) := if 0 ≤ c ∧ c < p.length then (if par p c.toNat = c.toNat then none else some ("NotRoot", c)) else some ("NoNode", c)
def lnkE (p : List Nat) (c a : Int) : Option (Str × Int) := match nrE p c with
  | some e => some e
  | none => match nrE p a with
    | some e => some e
    | none => if c = a then some ("SameRoot", c) else none
end G

/-! GHist: histories: steps as a type; checked, run. -/
namespace G
open PySem (Str)
inductive Stp where
  | nd (i : Int)
  | lk (c a : Int)
  | rp (n : Nat) (b : Bool) (ss : List Stp)
def sqD (b : Bool) (xs : List D) : D := if b = true then .tup xs else .lst xs
mutual
def stD : Stp → D
  | .nd i => .int i
  | .lk c a => .tup [.str "link", .int c, .int a]
  | .rp n b ss => .tup [.str "repeat", .int (n : Nat), sqD b (stDs ss)]
def stDs : List Stp → List D
  | [] => []
  | s :: ss => stD s :: stDs ss
end
/-! ### the walk over steps -/
theorem grdL_self {x : D} {cs : Cs} : grdL x cs cs := by cases x <;> first | trivial | rfl
end G

/-! GHist2: histories checked and run, over the core. -/
namespace G
open PySem (Str)
end G

/-! GHist3: histories run. -/
namespace G
open PySem (Str)
/-- what find must promise -/
structure FdOk (e : Bool) (pf : Spec) : Prop where
  ok : ∀ {p : List Nat} {i : Nat} {cs : Cs} {Q : KD} {X : KX}, FoOk p → i < p.length → p.length ≤ 1000 → Q (.tup [fD (fnd p i), .int (cst p i : Nat)]) cs → pf [fD p, .int (i : Nat)] cs Q X
  er : e = true → ∀ {p : List Nat} {v : Int} {cs : Cs} {Q : KD} {X : KX}, v < 0 ∨ (p.length : Int) ≤ v → X (er "NoNode" "node" (.int v)) cs → pf [fD p, .int v] cs Q X
/-- what link must promise -/
structure LkOk (e : Bool) (pl : Spec) : Prop where
  ok : ∀ {p : List Nat} {c a : Int} {cs : Cs} {Q : KD} {X : KX}, FoOk p → p.length ≤ 1000 → lnkE p c a = none → Q (fD (cmp p [c.toNat] a.toNat)) cs → pl [fD p, .int c, .int a] cs Q X
  er : e = true → ∀ {p : List Nat} {c a : Int} {t : Str} {v : Int} {cs : Cs} {Q : KD} {X : KX}, p.length ≤ 1000 → lnkE p c a = some (t, v) → X (er t "node" (.int v)) cs → pl [fD p, .int c, .int a] cs Q X
end G

/-! GHist4: histories drawn. -/
namespace G
open PySem (Str)
end G

/-! GHist5: histories: finds counted, written out, epochs; link without errors. -/
namespace G
open PySem (Str)
/-! ### link, good roots only -/
/-! ### finds counted -/
/-! ### written out -/
end G

/-! GHist6: epochs of histories of finds and links. -/
namespace G
open PySem (Str)
/-- a find or a link -/
inductive Fl where
  | nd (i : Nat)
  | lk (c a : Int)
/-- cells that hold lists of nodes -/
def Hold (c : Cs) : List Nat → List (List Nat) → Prop
  | [], [] => True
  | n :: ns, l :: ls => c n = some (.lst (nI l)) ∧ Hold c ns ls
  | _, _ => False
theorem Hold.put {c : Cs} {k : Nat} {o : Ob} : ∀ {ns : List Nat} {ls : List (List Nat)}, Hold c ns ls → k ∉ ns → Hold (put c k o) ns ls
  | [], [], _, _ => trivial
  | n :: ns, l :: ls, h, hk => ⟨by rw [put_ne (fun z => hk (by simp [z]))]; exact h.1, Hold.put h.2 fun z => hk (by simp [z])⟩
theorem Hold.del {c : Cs} {k : Nat} : ∀ {ns : List Nat} {ls : List (List Nat)}, Hold c ns ls → k ∉ ns → Hold (del c k) ns ls
  | [], [], _, _ => trivial
  | n :: ns, l :: ls, h, hk => ⟨by
      have : n ≠ k := fun z => hk (by simp [z])
      show (if n = k then none else c n) = _
      rw [if_neg this]
      exact h.1, Hold.del h.2 fun z => hk (by simp [z])⟩
theorem Hold.app {c : Cs} {n : Nat} {l : List Nat} : ∀ {ns : List Nat} {ls : List (List Nat)}, Hold c ns ls → c n = some (.lst (nI l)) → Hold c (ns ++ [n]) (ls ++ [l])
  | [], [], _, h => ⟨h, trivial⟩
  | _ :: _, _ :: _, h, h' => ⟨h.1, Hold.app h.2 h'⟩
theorem Hold.len {c : Cs} : ∀ {ns : List Nat} {ls : List (List Nat)}, Hold c ns ls → ns.length = ls.length
  | [], [], _ => rfl
  | _ :: _, _ :: _, h => by simp [Hold.len h.2]
theorem Hold.some {c : Cs} {k : Nat} : ∀ {ns : List Nat} {ls : List (List Nat)}, Hold c ns ls → k ∈ ns → c k ≠ none
  | [], [], _, hk => by cases hk
  | n :: ns, l :: ls, h, hk => by
    rcases List.mem_cons.mp hk with z | z
    · subst z
      rw [h.1]
      simp
    · exact Hold.some h.2 z
end G

/-! GReprH: repr of histories. -/
namespace G
open PySem (Str PyData)
open PySem
end G

/-! GHist7: finds counted, steps written, histories written out; their runs in normal form. -/
namespace G
open PySem (Str)
/-! ### steps written -/
/-! ### written out, as a tree -/
/-! ### runs in normal form -/
end G

/-! GSortN: sorted(..) of whole numbers as a cell. -/
namespace G
open PySem PySem.Spec L2
section
variable {X : Cx} {W : WX} {pos p : Pos} {a : Expr} {ca : E}
end
end G

namespace G
end G

/-! GHist8: the found nodes of histories; steps with tuples; epochs with rounds. -/
namespace G
open PySem (Str)
/-! ### found nodes -/
/-! ### steps with tuples -/
/-! ### epochs -/
def HoldS (c : Cs) : List Nat → List (List Stp) → Prop
  | [], [] => True
  | n :: ns, l :: ls => c n = some (.lst (stDs l)) ∧ HoldS c ns ls
  | _, _ => False
theorem HoldS.put {c : Cs} {k : Nat} {o : Ob} : ∀ {ns : List Nat} {ls : List (List Stp)}, HoldS c ns ls → k ∉ ns → HoldS (put c k o) ns ls
  | [], [], _, _ => trivial
  | n :: ns, l :: ls, ⟨h, t⟩, hk => by
    have h1 : n ≠ k := fun z => hk (by rw [z]; exact List.mem_cons_self)
    exact ⟨by rw [put_ne h1]; exact h, HoldS.put t fun z => hk (List.mem_cons_of_mem _ z)⟩
theorem HoldS.del {c : Cs} {k : Nat} : ∀ {ns : List Nat} {ls : List (List Stp)}, HoldS c ns ls → k ∉ ns → HoldS (del c k) ns ls
  | [], [], _, _ => trivial
  | n :: ns, l :: ls, ⟨h, t⟩, hk => by
    have h1 : n ≠ k := fun z => hk (by rw [z]; exact List.mem_cons_self)
    refine ⟨?_, HoldS.del t fun z => hk (List.mem_cons_of_mem _ z)⟩
    show (if n = k then none else c n) = _
    rw [if_neg h1]
    exact h
theorem HoldS.app {c : Cs} {n : Nat} {l : List Stp} : ∀ {ns : List Nat} {ls : List (List Stp)}, HoldS c ns ls → c n = some (.lst (stDs l)) → HoldS c (ns ++ [n]) (ls ++ [l])
  | [], [], _, h => ⟨h, trivial⟩
  | m :: ns, k :: ls, ⟨h, t⟩, h2 => ⟨h, HoldS.app t h2⟩
theorem HoldS.some {c : Cs} {k : Nat} : ∀ {ns : List Nat} {ls : List (List Stp)}, HoldS c ns ls → k ∈ ns → c k ≠ none
  | [], [], _, hk => by cases hk
  | n :: ns, l :: ls, ⟨h, t⟩, hk => by
    rcases List.mem_cons.mp hk with rfl | z
    · rw [h]
      simp
    · exact t.some z
end G

/-! GDen: what values denote, part by part. -/
namespace G
open PySem (Str)
end G

/-! GHist9: histories of finds written out once. -/
namespace G
open PySem (Str)
end G

/-! GErr2: roots, depths that may raise; lists of equal answers. -/
namespace G
open PySem (Str)
end G

/-! GStoB: what the functions on named forests promise. -/
namespace G
open PySem (Str)
open L2 (Key)
theorem asB_map : ∀ bs : List Bool, asBools (bs.map D.bl) = some bs
  | [] => rfl
  | b :: bs => by
    rw [List.map_cons]
    show (asBools (bs.map D.bl)).map (b :: ·) = _
    rw [asB_map bs]
    rfl
/-! with_forest -/
end G

namespace G
open PySem (Str)
open PySem.NumText
def oD : Option Int → D
  | none => .non
  | some i => .int i
def sgn (w : List Nat) : Prop := ∀ c ∈ w, c < 0x110000
theorem sgn_ok {w : List Nat} (h : sgn w) : strOk (SX.S w) = true := by
  unfold strOk SX.S
  simp
  exact h
theorem eq_S {a b : List Nat} {cs : Cs} {Q : KD} {X : KX} (ha : sgn a) (hb : sgn b) (h : Q (.bl (decide (a = b))) cs) : sEq [.str (SX.S a), .str (SX.S b)] cs Q X := by
  rw [sEq_e]
  refine ⟨pur_str (k := 64) (sgn_ok ha), pur_str (k := 64) (sgn_ok hb), ?_⟩
  show Q (.bl (SX.S a == SX.S b)) cs
  rw [SX.S_beq_eq]
  exact h
theorem dash_S : ("-" : Str) = SX.S [45] := by decide +kernel
theorem zero_S : ("0" : Str) = SX.S [48] := by decide +kernel
theorem sgn_sub {a b : List Nat} (h : sgn a) (hs : ∀ c ∈ b, c ∈ a) : sgn b := fun c hc => h c (hs c hc)
theorem dg_sub {w : List Nat} : ∀ c ∈ dg w, c ∈ w := fun c hc => by
  unfold dg at hc
  split at hc
  · exact List.mem_of_mem_drop hc
  · exact hc
def spPNm : G.Spec := fun ds cs Q _ => ∃ w : List Nat, ds = [.str (SX.S w)] ∧ sgn w ∧ w.length ≤ 100000 ∧ Q (oD (pnum w)) cs
theorem pn_rest {w : List Nat} {cs : Cs} {Q : KD} {X : KX} (hw : sgn w) (hl : w.length ≤ 100000) (hQ : Q (oD (pnum w)) cs) : wpS (.seq c_parse_number_3 (.seq c_parse_number_5 c_parse_number_6)) [some (.str (SX.S w)), some (.str (SX.S (dg w))), none] cs { nx := fun _ cs' => Q .non cs', rt := Q, ex := fun x _ cs' => X x cs' } := by
  have lw : (SX.S w).length ≤ 16777216 := by rw [SX.S_len]; omega
  have dl : (dg w).length ≤ w.length := by
    unfold dg
    split
    · rw [List.length_drop]; omega
    · exact Nat.le_refl _
  have ld : (SX.S (dg w)).length ≤ 16777216 := by rw [SX.S_len]; omega
  have hd : sgn (dg w) := sgn_sub hw dg_sub
  have isd : ∀ c, decide (c ∈ ("0123456789" : Str).cps.toList) = isDg c := by
    intro c
    have e : ("0123456789" : Str).cps.toList = [48, 49, 50, 51, 52, 53, 54, 55, 56, 57] := by decide +kernel
    rw [e]
    unfold isDg
    simp only [List.mem_cons, List.not_mem_nil, or_false]
    rw [← Bool.decide_and]
    exact decide_eq_decide.mpr (by omega)
  have len : ∀ (Q : KD) (X : KX), Q (.int ((dg w).length : Nat)) cs → sLen [.str (SX.S (dg w))] cs Q X := fun Q X h => ⟨ld, by rw [SX.S_len]; exact h⟩
  have none_ : (¬ (1 ≤ (dg w).length ∧ (dg w).length ≤ 31 ∧ (dg w).all isDg = true)) → Q .non cs := fun h => by
    unfold pnum at hQ
    rw [if_neg h] at hQ
    exact hQ
  simp only [wpS]
  rw [c_parse_number_3]
  simp only [wpS, wpE, wpEs, getV]
  refine len _ _ ?_
  have bad : (¬ (1 ≤ (dg w).length ∧ (dg w).length ≤ 31 ∧ (dg w).all isDg = true)) → ∀ K : Ends, K.rt = Q → wpS c_parse_number_2 [some (.str (SX.S w)), some (.str (SX.S (dg w))), none] cs K := fun h K e => by
    rw [c_parse_number_2]
    simp only [wpS, wpE]
    rw [e]
    exact none_ h
  by_cases h1 : 1 ≤ (dg w).length
  rotate_left
  · simp only [sLe_i, decide_eq_false (show ¬ (1 : Int) ≤ ((dg w).length : Nat) by omega), Bool.false_eq_true, if_false, sNot_e, Bool.not_false, if_true]
    exact bad (fun z => h1 z.1) _ rfl
  simp only [sLe_i, decide_eq_true (show (1 : Int) ≤ ((dg w).length : Nat) by omega), if_true]
  by_cases h31 : (dg w).length ≤ 31
  rotate_left
  · simp only [decide_eq_false (show ¬ (((dg w).length : Nat) : Int) ≤ 31 by omega), sNot_e, Bool.not_false, if_true]
    exact bad (fun z => h31 z.2.1) _ rfl
  simp only [decide_eq_true (show (((dg w).length : Nat) : Int) ≤ 31 by omega), sNot_e, Bool.not_true, Bool.false_eq_true, if_false]
  refine ⟨SX.S (dg w), rfl, ?_⟩
  refine comp_of (fun c : Nat => D.str ⟨#[c]⟩) (fun _ => true) (fun c => .bl (isDg c)) trivial (SX.S (dg w)).cps.toList [] (fun c _ => ⟨_, rfl, fun K h => h, fun _ K h => ?_⟩) ?_ ?_
  · refine ⟨c, _, rfl, ?_⟩
    rw [isd]
    exact h
  · have : (SX.S (dg w)).cps.toList.length = (dg w).length := by simp [SX.S]
    simp only [List.length_nil]
    show 0 + _ ≤ 16777216
    omega
  rw [List.nil_append, List.filter_eq_self.mpr (fun _ _ => rfl)]
  have et : (SX.S (dg w)).cps.toList = dg w := by simp [SX.S]
  rw [et]
  show sAll [.lst ((dg w).map fun c => D.bl (isDg c))] cs _ _
  have eb : asBools ((dg w).map fun c => D.bl (isDg c)) = some ((dg w).map isDg) := by
    have := asB_map ((dg w).map isDg)
    rw [List.map_map] at this
    exact this
  rw [sAll_e]
  show (match asBools ((dg w).map fun c => D.bl (isDg c)) with
    | some bs => _
    | none => False)
  rw [eb]
  dsimp only
  have ea : ((dg w).map isDg).all id = (dg w).all isDg := by rw [List.all_map]; rfl
  rw [ea]
  by_cases hal : (dg w).all isDg = true
  rotate_left
  · have : (dg w).all isDg = false := by simpa using hal
    simp only [this, sNot_e, Bool.not_false, if_true]
    exact bad (fun z => hal z.2.2) _ rfl
  simp only [hal, sNot_e, Bool.not_true, Bool.false_eq_true, if_false]
  have pn : pnum w = if (dg w).take 1 = [48] ∧ w ≠ [48] then none else some (if w.take 1 = [45] then -((digitsVal (dg w) : Nat) : Int) else ((digitsVal w : Nat) : Int)) := by
    unfold pnum
    rw [if_pos ⟨h1, h31, hal⟩]
  have last : ¬ ((dg w).take 1 = [48] ∧ w ≠ [48]) → wpS c_parse_number_6 [some (.str (SX.S w)), some (.str (SX.S (dg w))), none] cs { nx := fun _ cs' => Q .non cs', rt := Q, ex := fun x _ cs' => X x cs' } := fun hz => by
    rw [if_neg hz] at pn
    rw [pn] at hQ
    rw [c_parse_number_6]
    simp only [wpS, wpE, wpEs, getV]
    have hne : dg w ≠ [] := fun z => by rw [z] at h1; simp at h1
    have wl : w.length ≤ 32 := by
      unfold dg at h31
      split at h31
      · rw [List.length_drop] at h31; omega
      · omega
    by_cases hm : w.take 1 = [45]
    · rw [if_pos hm] at hQ
      have hw2 : w = 45 :: dg w := by
        cases w with
        | nil => cases hm
        | cons c r =>
          simp at hm
          subst hm
          rfl
      refine ⟨SX.S w, _, rfl, PySem.intText_neg (cs := dg w) (by show w = _; exact hw2) (all_dg hal) hne (by rw [SX.S_len]; omega), by rw [SX.S_len]; omega, hQ⟩
    · rw [if_neg hm] at hQ
      have ed : dg w = w := if_neg hm
      rw [ed] at hal hne
      refine ⟨SX.S w, _, rfl, SX.int_S hal hne (by omega), by rw [SX.S_len]; omega, hQ⟩
  rw [c_parse_number_5]
  simp only [wpS, wpE, wpEs, getV]
  obtain ⟨c, r, e⟩ : ∃ c r, dg w = c :: r := by
    cases e : dg w with
    | nil => rw [e] at h1; simp at h1
    | cons c r => exact ⟨c, r, rfl⟩
  refine .inl ⟨SX.S (dg w), 0, c, rfl, ld, ?_, ?_⟩
  · rw [et, e]
    unfold L2.atI L2.ixN
    simp
  rw [zero_S]
  show sEq [.str (SX.S [c]), .str (SX.S [48])] cs _ _
  refine eq_S (fun x hx => hd x (by rw [e]; simp at hx; simp [hx])) (show ∀ x ∈ [48], x < 0x110000 from by decide) ?_
  by_cases c48 : c = 48
  rotate_left
  · rw [decide_eq_false (show ¬ [c] = [48] from fun z => c48 (by injection z))]
    simp only [Bool.false_eq_true, if_false]
    exact last fun z => c48 (by rw [e] at z; have := z.1; simp at this; exact this)
  rw [decide_eq_true (show [c] = [48] by rw [c48])]
  simp only [if_true]
  rw [sNe_e]
  refine ⟨pur_str (k := 64) (sgn_ok hw), pur_str (k := 64) (sgn_ok (show ∀ x ∈ [48], x < 0x110000 from by decide)), ?_⟩
  show (if (!(SX.S w == SX.S [48])) = true then _ else _)
  rw [SX.S_beq_eq]
  by_cases w48 : w = [48]
  · rw [decide_eq_true w48]
    simp only [Bool.not_true, Bool.false_eq_true, if_false]
    exact last fun z => z.2 w48
  · rw [decide_eq_false w48]
    simp only [Bool.not_false, if_true]
    rw [c_parse_number_4]
    simp only [wpS, wpE]
    rw [pn, if_pos ⟨by rw [e, c48]; rfl, w48⟩] at hQ
    exact hQ
theorem ok_pnm : okFn 3 c_parse_number spPNm := by
  rintro ds cs Q X ⟨w, rfl, hw, hl, hQ⟩
  show wpS (.seq c_parse_number_1 (.seq c_parse_number_3 (.seq c_parse_number_5 c_parse_number_6))) [some (.str (SX.S w)), none, none] cs _
  have r := pn_rest (X := X) hw hl hQ
  simp only [wpS] at r ⊢
  rw [c_parse_number_1]
  simp only [wpS, wpE, wpEs, getV]
  have lim1 : (SX.S w).length ≤ 16777216 := by rw [SX.S_len]; omega
  refine ⟨_, _, rfl, lim1, ?_⟩
  rw [SX.slice_to (by decide), dash_S]
  refine eq_S (sgn_sub hw fun c hc => List.mem_of_mem_take hc) (show ∀ c ∈ [45], c < 0x110000 from by decide) ?_
  by_cases h : w.take 1 = [45]
  · rw [decide_eq_true (show w.take (1 : Int).toNat = [45] from h)]
    simp only [if_true]
    refine ⟨_, _, rfl, lim1, ?_⟩
    rw [SX.slice_from (by decide)]
    simp only [bindP, List.set]
    have e : dg w = w.drop 1 := if_pos h
    rw [e] at r
    exact r
  · rw [decide_eq_false (show ¬ w.take (1 : Int).toNat = [45] from h)]
    simp only [Bool.false_eq_true, if_false]
    simp only [bindP, List.set]
    have e : dg w = w := if_neg h
    rw [e] at r
    exact r
end G

namespace G
open PySem (Str)
open PySem.NumText
theorem ne_S {a b : List Nat} {cs : Cs} {Q : KD} {X : KX} (ha : sgn a) (hb : sgn b) (h : Q (.bl (!decide (a = b))) cs) : sNe [.str (SX.S a), .str (SX.S b)] cs Q X := by
  rw [sNe_e]
  refine ⟨pur_str (k := 64) (sgn_ok ha), pur_str (k := 64) (sgn_ok hb), ?_⟩
  show Q (.bl (!(SX.S a == SX.S b))) cs
  rw [SX.S_beq_eq]
  exact h
theorem oD_pur {o : Option Int} {k : Nat} : pur k (oD o) = true := by
  cases o with
  | none => cases k <;> rfl
  | some i => exact pur_int
theorem oD_eq {o : Option Int} {i : Nat} : eqD (oD o) (.int (i : Nat)) = decide (o = some ((i : Nat) : Int)) := by
  cases o with
  | none => rfl
  | some j =>
    show (j == ((i : Nat) : Int)) = _
    by_cases h : j = (i : Nat)
    · rw [h]; simp
    · rw [decide_eq_false (fun z => h (Option.some.inj z))]
      exact beq_false_of_ne h
theorem oD_deref {o : Option Int} {cs : Cs} : deref cs (oD o) = oD o := by cases o <;> rfl
def spPPar : G.Spec := fun ds cs Q _ => ∃ (i : Nat) (w : List Nat), ds = [.int (i : Nat), .str (SX.S w)] ∧ sgn w ∧ w.length ≤ 100000 ∧ Q (oD (ppar i w)) cs
theorem ok_ppar : okFn 3 (c_parse_parent spPNm) spPPar := by
  rintro ds cs Q X ⟨i, w, rfl, hw, hl, hQ⟩
  show wpS (.seq (c_parse_parent_1 spPNm) (c_parse_parent_2 spPNm)) [some (.int (i : Nat)), some (.str (SX.S w)), none] cs _
  have s45 : sgn [45] := show ∀ x ∈ [45], x < 0x110000 from by decide
  have tail : ∀ o : Option Int, (w = [45] → o = some ((i : Nat) : Int)) → (w ≠ [45] → o = pnum w) → wpS (c_parse_parent_2 spPNm) [some (.int (i : Nat)), some (.str (SX.S w)), some (oD o)] cs { nx := fun _ cs' => Q .non cs', rt := Q, ex := fun x _ cs' => X x cs' } := fun o h1 h2 => by
    rw [c_parse_parent_2]
    simp only [wpS, wpE, wpEs, getV]
    rw [sEq_e]
    refine ⟨by rw [oD_deref]; exact oD_pur, rfl, ?_⟩
    rw [oD_deref]
    show (if eqD (oD o) (.int (i : Nat)) = true then _ else _)
    rw [oD_eq]
    by_cases e : o = some ((i : Nat) : Int)
    · rw [decide_eq_true e]
      simp only [if_true]
      rw [dash_S]
      refine ne_S hw s45 ?_
      by_cases h : w = [45]
      · rw [decide_eq_true h]
        simp only [Bool.not_true, Bool.false_eq_true, if_false]
        have : ppar i w = o := by unfold ppar; rw [if_pos h, e]
        rw [this] at hQ
        exact hQ
      · rw [decide_eq_false h]
        simp only [Bool.not_false, if_true]
        have : ppar i w = none := by unfold ppar; rw [if_neg h, ← h2 h, if_pos e]
        rw [this] at hQ
        exact hQ
    · rw [decide_eq_false e]
      simp only [Bool.false_eq_true, if_false]
      have h : w ≠ [45] := fun z => e (h1 z)
      have : ppar i w = o := by unfold ppar; rw [if_neg h, ← h2 h, if_neg e]
      rw [this] at hQ
      exact hQ
  simp only [wpS]
  rw [c_parse_parent_1]
  simp only [wpS, wpE, wpEs, getV]
  rw [dash_S]
  refine eq_S hw s45 ?_
  by_cases h : w = [45]
  · rw [decide_eq_true h]
    simp only [if_true, bindP, List.set]
    exact tail (some ((i : Nat) : Int)) (fun _ => rfl) (fun z => (z h).elim)
  · rw [decide_eq_false h]
    simp only [Bool.false_eq_true, if_false]
    refine ⟨w, rfl, hw, hl, ?_⟩
    simp only [bindP, List.set]
    exact tail (pnum w) (fun z => (h z).elim) (fun _ => rfl)
end G

namespace G
open PySem (Str)
open PySem.NumText
theorem num_str (k : Nat) : (toString ((k : Nat) : Int) : Str) = SX.S (TL.numL k) := SX.num_S k
theorem space_S : (" " : Str) = SX.S [32] := by decide +kernel
theorem log_ltN {k : Nat} (h : k < 1000) : (((k : Nat) : Int)).natAbs.log2 < 1920 := by
  have : (((k : Nat) : Int)).natAbs = k := by omega
  rw [this]
  have := Nat.log2_lt (n := k) (k := 10)
  by_cases z : k = 0
  · subst z; decide
  · have := (Nat.log2_lt z (k := 10)).mpr (by omega)
    omega
theorem wd_len {p : List Nat} {i : Nat} (h : par p i < 1000) : (wdT p i).length ≤ 3 := by
  unfold wdT
  split
  · simp
  · exact TL.numL_len (by decide) (by omega)
def spShw : G.Spec := fun ds cs Q _ => ∃ p : List Nat, ds = [fD p] ∧ p.length ≤ 1000 ∧ (∀ i, i < p.length → par p i < 1000) ∧ Q (.str (SX.S (shw p))) cs
theorem join_shw {p : List Nat} (hl : p.length ≤ 1000) (hp : ∀ i, i < p.length → par p i < 1000) {cs : Cs} {Q : KD} {X : KX} (hQ : Q (.str (SX.S (shw p))) cs) : sJoin [.str " ", .lst ((List.range p.length).map fun i => D.str (SX.S (wdT p i)))] cs Q X := by
  refine ⟨_, " ", (List.range p.length).map fun i => SX.S (wdT p i), rfl, by show some _ = some _; rw [List.map_map]; rfl, ?_, ?_⟩
  · have : ∀ l : List Nat, (∀ i ∈ l, i < p.length) → ((l.map fun i => SX.S (wdT p i)).map (·.length)).sum ≤ 3 * l.length := by
      intro l
      induction l with
      | nil => intro _; simp
      | cons a l ih =>
        intro h
        have h1 := ih fun i hi => h i (List.mem_cons_of_mem _ hi)
        have h2 := wd_len (hp a (h a List.mem_cons_self))
        simp only [List.map_cons, List.sum_cons, List.length_cons, SX.S_len] at h1 ⊢
        omega
    have h1 := this (List.range p.length) fun i hi => List.mem_range.mp hi
    have h2 : Str.length " " = 1 := by decide +kernel
    rw [h2]
    simp only [List.length_map, List.length_range] at h1 ⊢
    omega
  · have e : PySem.Txt.join " " ((List.range p.length).map fun i => SX.S (wdT p i)) = SX.S (shw p) := by
      rw [space_S]
      have := SX.join_S [32] ((List.range p.length).map (wdT p))
      rw [List.map_map] at this
      exact this
    rw [e]
    exact hQ
theorem ok_shw : okFn 2 c_l_shown spShw := by
  rintro ds cs Q X ⟨p, rfl, hl, hp, hQ⟩
  show wpS c_l_shown_1 [some (fD p), none] cs _
  rw [c_l_shown_1]
  simp only [wpS, wpE, wpEs, getV, len_fD]
  refine ⟨⟨" ", rfl⟩, by omega, by omega, ?_⟩
  rw [rgD_nI]
  refine comp_of (fun i : Nat => D.int (i : Nat)) (fun _ => true) (fun i => .str (SX.S (wdT p i))) trivial (List.range p.length) [] (fun i hi => ⟨_, rfl, fun K h => h, fun _ K hK => ?_⟩) (by show _ ≤ 16777216; simp; omega) ?_
  · have hi := List.mem_range.mp hi
    simp only [wipe, List.set, getV, sIx_e, getQ_fD, ix_par hi, sEq_i]
    by_cases e : par p i = i
    · rw [show (((par p i : Nat) : Int) == ((i : Nat) : Int)) = true by rw [e]; simp]
      simp only [if_true]
      have : wdT p i = [45] := if_pos e
      rw [this, ← dash_S] at hK
      exact hK
    · rw [show (((par p i : Nat) : Int) == ((i : Nat) : Int)) = false from beq_false_of_ne (by omega)]
      simp only [Bool.false_eq_true, if_false]
      have : wdT p i = TL.numL (par p i) := if_neg e
      rw [this, ← num_str] at hK
      exact ⟨_, rfl, log_ltN (hp i hi), hK⟩
  · rw [List.nil_append, List.filter_eq_self.mpr (fun _ _ => rfl), if_neg Bool.false_ne_true]
    exact join_shw hl hp hQ
end G

namespace G
open PySem (Str)
open PySem.NumText
theorem enum_at : ∀ (l : List Nat) (k : Nat) (f : Nat → Nat), (∀ i, i < l.length → l[i]? = some (f i)) → enumD k (nI l) = (List.range l.length).map fun i => D.tup [.int ((k + i : Nat) : Int), .int (f i : Nat)]
  | [], _, _, _ => rfl
  | a :: l, k, f, h => by
    have h0 := h 0 (by simp)
    have ih := enum_at l (k + 1) (fun i => f (i + 1)) fun i hi => by
      have := h (i + 1) (by simp; omega)
      simpa using this
    simp at h0
    rw [List.length_cons, List.range_succ_eq_map, List.map_cons, List.map_map]
    show D.tup [.int ((k : Nat) : Int), .int (a : Nat)] :: enumD (k + 1) (nI l) = _
    rw [show ((k : Nat) : Int) + 1 = ((k + 1 : Nat) : Int) by omega, ih, h0]
    congr 1
    refine List.map_congr_left fun i _ => ?_
    show D.tup [.int ((k + 1 + i : Nat) : Int), _] = D.tup [.int ((k + (i + 1) : Nat) : Int), _]
    rw [show k + 1 + i = k + (i + 1) by omega]
theorem ok_fmt : okFn 3 c_format_forest spShw := by
  rintro ds cs Q X ⟨p, rfl, hl, hp, hQ⟩
  show wpS c_format_forest_1 [some (fD p), none, none] cs _
  rw [c_format_forest_1]
  simp only [wpS, wpE, wpEs, getV]
  refine ⟨⟨" ", rfl⟩, ?_⟩
  have en : iEnum [fD p] cs = fun R => R (enumD ((0 : Nat) : Int) (nI p)) (grdL (fD p) cs) := by
    funext R
    show (match getQ (fD p) cs with
      | some xs => R (enumD 0 xs) (grdL (fD p) cs)
      | none => False) = _
    rw [getQ_fD]
    rfl
  rw [en]
  dsimp only
  rw [enum_at p 0 (par p) fun i hi => by unfold par; rw [List.getD_eq_getElem?_getD, List.getElem?_eq_getElem hi]; rfl]
  refine comp_of (fun i : Nat => D.tup [.int ((0 + i : Nat) : Int), .int (par p i : Nat)]) (fun _ => true) (fun i => .str (SX.S (wdT p i))) (grdL_self) (List.range p.length) [] (fun i hi => ⟨_, rfl, fun K h => h, fun _ K hK => ?_⟩) (by show _ ≤ 16777216; simp; omega) ?_
  · have hi := List.mem_range.mp hi
    simp only [wipe, List.set, getV, sEq_i, Nat.zero_add]
    by_cases e : par p i = i
    · rw [show (((par p i : Nat) : Int) == ((i : Nat) : Int)) = true by rw [e]; simp]
      simp only [if_true]
      have : wdT p i = [45] := if_pos e
      rw [this, ← dash_S] at hK
      exact hK
    · rw [show (((par p i : Nat) : Int) == ((i : Nat) : Int)) = false from beq_false_of_ne (by omega)]
      simp only [Bool.false_eq_true, if_false]
      have : wdT p i = TL.numL (par p i) := if_neg e
      rw [this, ← num_str] at hK
      exact ⟨_, rfl, log_ltN (hp i hi), hK⟩
  · rw [List.nil_append, List.filter_eq_self.mpr (fun _ _ => rfl), if_neg Bool.false_ne_true]
    exact join_shw hl hp hQ
end G

namespace G
open PySem (Str)
open PySem.NumText
/-- the forests of the texts -/
def F40 (p : List Nat) : Prop := FoOk p ∧ p.length ≤ 40
theorem split_e {w : List Nat} {cs : Cs} {Q : KD} {X : KX} (hl : w.length ≤ 100000) (h : Q (.lst ((TL.spl [32] 0 [] w).map fun v => D.str (SX.S v))) cs) : sSplit [.str (SX.S w), .str " "] cs Q X := by
  refine ⟨SX.S w, " ", rfl, by decide +kernel, by rw [SX.S_len]; omega, ?_⟩
  rw [space_S, SX.split_S (by decide) (by decide), List.map_map]
  exact h
theorem S_nil : ("" : Str) = SX.S [] := by decide +kernel
theorem mem_join : ∀ (l : List (List Nat)) (v : List Nat) (c : Nat), v ∈ l → c ∈ v → c ∈ TL.joinL [32] l
  | [], _, _, h, _ => by simp at h
  | [a], v, c, h, hc => by
    simp at h
    subst h
    simpa [TL.joinL] using hc
  | a :: b :: r, v, c, h, hc => by
    have ih := mem_join (b :: r) v c
    simp only [TL.joinL, List.mem_append]
    rcases List.mem_cons.mp h with z | z
    · subst z
      exact .inl (by first | exact hc | exact .inl hc)
    · have := ih z hc
      first | exact .inr this | exact .inr (.inr this)
theorem word_sub {t v : List Nat} (h : v ∈ words t) : ∀ c ∈ v, c ∈ t := fun c hc => by
  have := mem_join (words t) v c h hc
  rw [join_words] at this
  exact this
theorem join_len : ∀ (l : List (List Nat)), l.length ≤ (TL.joinL [32] l).length + 1 ∧ ∀ v ∈ l, v.length ≤ (TL.joinL [32] l).length
  | [] => ⟨by simp [TL.joinL], by simp⟩
  | [a] => ⟨by simp [TL.joinL], by simp [TL.joinL]⟩
  | a :: b :: r => by
    have ih := join_len (b :: r)
    have e : (TL.joinL [32] (a :: b :: r)).length = a.length + 1 + (TL.joinL [32] (b :: r)).length := by
      simp only [TL.joinL, List.length_append, List.length_cons, List.length_nil]
      omega
    rw [e]
    refine ⟨by have := ih.1; simp only [List.length_cons] at this ⊢; omega, fun v hv => ?_⟩
    rcases List.mem_cons.mp hv with z | z
    · subst z; omega
    · have := ih.2 v z
      omega
theorem words_le {t : List Nat} : (words t).length ≤ t.length + 1 := by
  have := (join_len (words t)).1
  rwa [join_words] at this
theorem word_le {t v : List Nat} (h : v ∈ words t) : v.length ≤ t.length := by
  have := (join_len (words t)).2 v h
  rwa [join_words] at this
theorem iEnum_l {xs : List D} {cs : Cs} : iEnum [.lst xs] cs = fun R => R (enumD 0 xs) (grdL (.lst xs) cs) := rfl
def wrd (t : List Nat) (i : Nat) : List Nat := (words t).getD i []
theorem wrd_get {t : List Nat} {i : Nat} (h : i < (words t).length) : (words t)[i]? = some (wrd t i) := by
  unfold wrd
  rw [List.getD_eq_getElem?_getD, List.getElem?_eq_getElem h]
  rfl
theorem wrd_mem {t : List Nat} {i : Nat} (h : i < (words t).length) : wrd t i ∈ words t := List.mem_of_getElem? (wrd_get h)
theorem enum_map {α : Type} (g : α → D) (l : List α) (k : Nat) (f : Nat → α) (h : ∀ i, i < l.length → l[i]? = some (f i)) : enumD k (l.map g) = (List.range l.length).map fun i => D.tup [.int ((k + i : Nat) : Int), g (f i)] := by
  induction l generalizing k f with
  | nil => rfl
  | cons a l ih =>
    have h0 := h 0 (by simp)
    have ih := ih (k + 1) (fun i => f (i + 1)) fun i hi => by
      have := h (i + 1) (by simp; omega)
      simpa using this
    simp at h0
    rw [List.length_cons, List.range_succ_eq_map, List.map_cons, List.map_cons, List.map_map]
    show D.tup [.int ((k : Nat) : Int), g a] :: enumD (k + 1) (l.map g) = _
    rw [show ((k : Nat) : Int) + 1 = ((k + 1 : Nat) : Int) by omega, ih, h0]
    congr 1
    refine List.map_congr_left fun i _ => ?_
    show D.tup [.int ((k + 1 + i : Nat) : Int), _] = D.tup [.int ((k + (i + 1) : Nat) : Int), _]
    rw [show k + 1 + i = k + (i + 1) by omega]
/-- the forest of a text; no forest -/
def spPFor : G.Spec := fun ds cs Q X => ∃ w : List Nat, ds = [.str (SX.S w)] ∧ sgn w ∧ w.length ≤ 999 ∧ (∀ p, F40 p → w = shw p → Q (fD p) cs) ∧ ((∀ p, F40 p → w ≠ shw p) → X (er "ParseError" "pos" (.int 0)) cs)
theorem in_none : ∀ os : List (Option Int), inD .non (os.map oD) = os.any Option.isNone
  | [] => rfl
  | o :: r => by
    have ih := in_none r
    unfold inD at ih ⊢
    rw [List.map_cons, List.any_cons, List.any_cons, ih]
    cases o <;> rfl
theorem all_some : ∀ os : List (Option Int), os.any Option.isNone = false → ∃ xs : List Int, os = xs.map some
  | [], _ => ⟨[], rfl⟩
  | none :: r, h => by simp at h
  | some i :: r, h => by
    obtain ⟨xs, e⟩ := all_some r (by simpa using h)
    exact ⟨i :: xs, by rw [e]; rfl⟩
theorem fo_lt {p : List Nat} (h : F40 p) {i : Nat} (hi : i < p.length) : par p i < 40 := Nat.lt_of_lt_of_le (par_lt h.1 hi) h.2
theorem ok_pfor : okFn 5 (c_parse_forestX spIsF spPPar) spPFor := by
  rintro ds cs Q X ⟨w, rfl, hw, hl, hQ, hX⟩
  show wpS (.seq (c_parse_forestX_1 spIsF spPPar) (.seq (c_parse_forestX_2 spIsF spPPar) (.seq (c_parse_forestX_4 spIsF spPPar) (c_parse_forestX_5 spIsF spPPar)))) [some (.str (SX.S w)), none, none, none, none] cs _
  have wl := words_le (t := w)
  simp only [wpS]
  rw [c_parse_forestX_1]
  simp only [wpS, wpE, wpEs, getV]
  rw [S_nil]
  refine eq_S hw (show ∀ x ∈ [], x < 0x110000 by simp) ?_
  have rest : wpS (.seq (c_parse_forestX_2 spIsF spPPar) (.seq (c_parse_forestX_4 spIsF spPPar) (c_parse_forestX_5 spIsF spPPar))) [some (.str (SX.S w)), some (.lst ((words w).map fun v => D.str (SX.S v))), none, none, none] cs { nx := fun _ cs' => Q .non cs', rt := Q, ex := fun x _ cs' => X x cs' } := by
    simp only [wpS]
    rw [c_parse_forestX_2]
    simp only [wpS, wpE, wpEs, getV]
    rw [iEnum_l]
    dsimp only
    rw [show (0 : Int) = ((0 : Nat) : Int) from rfl, enum_map (fun v => D.str (SX.S v)) (words w) 0 (wrd w) fun i hi => wrd_get hi]
    refine comp_of (fun i : Nat => D.tup [.int ((0 + i : Nat) : Int), .str (SX.S (wrd w i))]) (fun _ => true) (fun i => oD (ppar i (wrd w i))) trivial (List.range (words w).length) [] (fun i hi => ⟨_, rfl, fun K h => h, fun _ K hK => ?_⟩) (by show _ ≤ 16777216; simp; omega) ?_
    · have hi := List.mem_range.mp hi
      simp only [wipe, List.set, getV, Nat.zero_add]
      exact ⟨i, wrd w i, rfl, sgn_sub hw (word_sub (wrd_mem hi)), by have := word_le (wrd_mem hi); omega, hK⟩
    · rw [List.nil_append, List.filter_eq_self.mpr (fun _ _ => rfl), if_neg Bool.false_ne_true]
      simp only [bindP, List.set]
      rw [c_parse_forestX_4]
      simp only [wpS, wpE, wpEs, getV]
      obtain ⟨os, hos⟩ : ∃ os, os = (List.range (words w).length).map fun i => ppar i (wrd w i) := ⟨_, rfl⟩
      have e1 : (List.range (words w).length).map (fun i => oD (ppar i (wrd w i))) = os.map oD := by rw [hos, List.map_map]; rfl
      have ol : os.length = (words w).length := by rw [hos]; simp
      rw [e1]
      refine ⟨rfl, ?_, ?_⟩
      · refine List.all_eq_true.mpr fun d hd => ?_
        obtain ⟨o, _, rfl⟩ := List.mem_map.mp hd
        cases o <;> rfl
      rw [in_none]
      have oat : ∀ p, w = shw p → ∀ i, i < p.length → F40 p → os[i]? = some (some ((par p i : Nat) : Int)) := fun p e i hi h => by
        have hlen : (words w).length = p.length := by rw [e]; exact words_len
        have hwi : wrd w i = wdT p i := by
          have := wrd_get (t := w) (i := i) (by omega)
          rw [e, words_at hi] at this
          rw [e]
          exact (Option.some.inj this).symm
        rw [hos, List.getElem?_map, List.getElem?_range (by omega)]
        show some (ppar i (wrd w i)) = _
        rw [hwi, ppar_wd (by have := fo_lt h hi; omega)]
      have bad : (∀ p, F40 p → w ≠ shw p) → ∀ K : Ends, K.ex = (fun x _ cs' => X x cs') → ∀ σ, wpS (c_parse_forestX_3 spIsF spPPar) σ cs K := fun h K e σ => by
        rw [c_parse_forestX_3]
        simp only [wpS, wpE, wpEs]
        rw [e]
        exact hX h
      cases ha : os.any Option.isNone with
      | true =>
        simp only [if_true]
        refine bad (fun p hp e => ?_) _ rfl _
        obtain ⟨o, ho, hn⟩ := List.any_eq_true.mp ha
        obtain ⟨i, hi⟩ := List.getElem?_of_mem ho
        have hil : i < os.length := by
          by_cases z : i < os.length
          · exact z
          · rw [List.getElem?_eq_none (by omega)] at hi; cases hi
        have hlen : (words w).length = p.length := by rw [e]; exact words_len
        rw [oat p e i (by omega) hp] at hi
        cases hi
        cases hn
      | false =>
        simp only [Bool.false_eq_true, if_false]
        obtain ⟨xs, ex⟩ := all_some os ha
        have exs : os.map oD = iDs xs := by rw [ex, List.map_map]; rfl
        have xl : xs.length = (words w).length := by rw [← ol, ex]; simp
        rw [exs]
        rw [show sTupOf [.lst (iDs xs)] cs = fun Q _ => Q (.tup (iDs xs)) cs from rfl]
        dsimp only
        refine ⟨xs, rfl, by omega, ?_⟩
        dsimp only
        rw [sNot_e]
        cases hc : (chkE xs).isNone with
        | false =>
          simp only [Bool.not_false, if_true]
          refine bad (fun p hp e => ?_) _ rfl _
          have hlen : (words w).length = p.length := by rw [e]; exact words_len
          have : xs = ofN p := by
            refine List.ext_getElem? fun i => ?_
            by_cases hi : i < p.length
            · have := oat p e i hi hp
              rw [ex, List.getElem?_map] at this
              unfold ofN
              rw [List.getElem?_map, List.getElem?_eq_getElem hi]
              have hp2 : par p i = p[i] := par_get hi
              rw [hp2] at this
              cases hx : xs[i]? with
              | none => rw [hx] at this; cases this
              | some v =>
                rw [hx] at this
                exact Option.some.inj this
            · rw [List.getElem?_eq_none (by omega), List.getElem?_eq_none (by simp [ofN]; omega)]
          rw [this, (chkE_fo hp.2 fun i hi => par_lt hp.1 hi).mpr hp.1] at hc
          cases hc
        | true =>
          simp only [Bool.not_true, Bool.false_eq_true, if_false]
          have hle : xs.length ≤ 40 := by
            by_cases z : xs.length > 40
            · unfold chkE at hc
              rw [if_pos z] at hc
              cases hc
            · omega
          have hw0 : wide xs = [] := by
            unfold chkE at hc
            rw [if_neg (by omega)] at hc
            cases e : wide xs with
            | nil => rfl
            | cons a l => rw [e] at hc; cases hc
          obtain ⟨i1, i2, i3⟩ := all_in hw0
          have en : xs = ofN (nats xs) := by
            refine List.ext_getElem? fun i => ?_
            have := congrArg (fun l : List D => l[i]?) i1
            simp only [iDs, nI, List.getElem?_map] at this
            unfold ofN
            rw [List.getElem?_map]
            cases h1 : xs[i]? with
            | none => rw [h1] at this; cases h2 : (nats xs)[i]? with
              | none => rfl
              | some v => rw [h2] at this; cases this
            | some u => rw [h1] at this; cases h2 : (nats xs)[i]? with
              | none => rw [h2] at this; cases this
              | some v =>
                rw [h2] at this
                simp at this
                simp [this]
          have hp : F40 (nats xs) := ⟨(chkE_fo (by omega) i2).mp (by rw [← en]; exact hc), by omega⟩
          rw [c_parse_forestX_5]
          simp only [wpS, wpE, wpEs, getV]
          rw [show sTupOf [.lst (iDs xs)] cs = fun Q _ => Q (.tup (iDs xs)) cs from rfl, i1]
          refine hQ (nats xs) hp (parse_shw (by omega) fun i hi v hv => ?_)
          have hi2 : i < (words w).length := by omega
          rw [wrd_get hi2] at hv
          cases hv
          have h1 : os[i]? = some (ppar i (wrd w i)) := by
            rw [hos, List.getElem?_map, List.getElem?_range hi2]
            rfl
          rw [ex, List.getElem?_map] at h1
          have h2 : xs[i]? = some ((par (nats xs) i : Nat) : Int) := by
            conv => lhs; rw [en]
            unfold ofN
            rw [List.getElem?_map, List.getElem?_eq_getElem hi, ← par_get hi]
            rfl
          rw [h2] at h1
          exact (Option.some.inj h1).symm
  by_cases h : w = []
  · rw [decide_eq_true h]
    simp only [if_true, bindP, List.set]
    refine ⟨by show 0 ≤ 16777216; omega, ?_⟩
    have ew : (words w).map (fun v => D.str (SX.S v)) = [] := by rw [h]; rfl
    rw [ew] at rest
    simpa only [wpS, List.length_nil] using rest
  · rw [decide_eq_false h]
    simp only [Bool.false_eq_true, if_false]
    refine ⟨⟨_, rfl⟩, split_e (by omega) ?_⟩
    simp only [bindP, List.set]
    have ew : words w = TL.spl [32] 0 [] w := if_neg h
    rw [ew] at rest
    simpa only [wpS] using rest
end G

/-! GTxI: the texts of forests: one forest for a text; texts of no forest, told by computing. -/
namespace G
open PySem (Str)
theorem par_ext {p q : List Nat} (hl : p.length = q.length) (h : ∀ i, i < p.length → par p i = par q i) : p = q := List.ext_getElem? fun i => by
  by_cases hi : i < p.length
  · have := h i hi
    rw [par_get hi, par_get (by omega)] at this
    rw [List.getElem?_eq_getElem hi, List.getElem?_eq_getElem (by omega), this]
  · rw [List.getElem?_eq_none (by omega), List.getElem?_eq_none (by omega)]
theorem wrd_shw {p : List Nat} {i : Nat} (hi : i < p.length) : wrd (shw p) i = wdT p i := by
  have := wrd_get (t := shw p) (i := i) (by rw [words_len]; exact hi)
  rw [words_at hi] at this
  exact (Option.some.inj this).symm
theorem shw_inj {p q : List Nat} (hp : F40 p) (hq : F40 q) (e : shw p = shw q) : p = q := by
  have hl : p.length = q.length := by rw [← words_len (p := p), e, words_len]
  refine par_ext hl fun i hi => ?_
  have h1 := lpar_wd (p := p) (i := i) (by have := fo_lt hp hi; omega)
  have h2 := lpar_wd (p := q) (i := i) (by have := fo_lt hq (i := i) (by omega); omega)
  rw [← wrd_shw hi, e, wrd_shw (by omega), h2] at h1
  exact (Option.some.inj h1).symm
theorem shw_sgn (p : List Nat) : sgn (shw p) := by
  intro c hc
  have big : ∀ (l : List (List Nat)), (∀ v ∈ l, ∀ c ∈ v, c < 58) → ∀ c ∈ TL.joinL [32] l, c < 58 := by
    intro l
    induction l with
    | nil => intro _ c hc; simp [TL.joinL] at hc
    | cons a l ih =>
      intro h c hc
      cases l with
      | nil => exact h a List.mem_cons_self c (by simpa [TL.joinL] using hc)
      | cons b r =>
        simp only [TL.joinL, List.mem_append] at hc
        rcases hc with hc | hc | hc
        · exact h a List.mem_cons_self c hc
        · simp at hc; omega
        · exact ih (fun v hv => h v (List.mem_cons_of_mem _ hv)) c hc
  have := big _ (fun v hv c hc => by
    obtain ⟨i, _, rfl⟩ := List.mem_map.mp hv
    unfold wdT at hc
    split at hc
    · simp at hc; omega
    · have := TL.numL_digits _ c hc; omega) c hc
  omega
theorem shw_len {p : List Nat} (h : F40 p) : (shw p).length ≤ 3 * p.length := by
  have aux : ∀ l : List (List Nat), (∀ v ∈ l, v.length ≤ 2) → (TL.joinL [32] l).length ≤ 3 * l.length := by
    intro l
    induction l with
    | nil => intro _; simp [TL.joinL]
    | cons a l ih =>
      intro hl
      have ha := hl a List.mem_cons_self
      cases l with
      | nil => simp [TL.joinL]; omega
      | cons b r =>
        have := ih fun v hv => hl v (List.mem_cons_of_mem _ hv)
        simp only [TL.joinL, List.length_append, List.length_cons, List.length_nil] at this ⊢
        omega
  have := aux ((List.range p.length).map (wdT p)) fun v hv => by
    obtain ⟨i, hi, rfl⟩ := List.mem_map.mp hv
    have := fo_lt h (List.mem_range.mp hi)
    unfold wdT
    split
    · simp
    · exact TL.numL_len (by decide) (by omega)
  simpa [shw] using this
theorem pfor_good {p : List Nat} {cs : Cs} {Q : KD} {X : KX} (h : F40 p) (hQ : Q (fD p) cs) : spPFor [.str (SX.S (shw p))] cs Q X :=
  ⟨shw p, rfl, shw_sgn p, by have := shw_len h; have := h.2; omega, fun q hq e => by rw [← shw_inj h hq e]; exact hQ, fun n => (n p h rfl).elim⟩
theorem pfor_bad {w : List Nat} {cs : Cs} {Q : KD} {X : KX} (hs : sgn w) (hl : w.length ≤ 999) (h : ∀ p, F40 p → w ≠ shw p) (hX : X (er "ParseError" "pos" (.int 0)) cs) : spPFor [.str (SX.S w)] cs Q X :=
  ⟨w, rfl, hs, hl, fun p hp e => (h p hp e).elim, fun _ => hX⟩
theorem shwF {p : List Nat} {cs : Cs} {Q : KD} {X : KX} (h : F40 p) (hQ : Q (.str (SX.S (shw p))) cs) : spShw [fD p] cs Q X :=
  ⟨p, rfl, by have := h.2; omega, fun i hi => by have := fo_lt h hi; omega, hQ⟩
/-- the row of a text's words -/
def rdL (t : List Nat) : List (Option Nat) := (List.range (words t).length).map fun i => lpar i (wrd t i)
def noF (t : List Nat) : Bool := (rdL t).any Option.isNone || (let p := (rdL t).filterMap id; !(shw p == t) || decide (40 < p.length) || !((List.range p.length).all fun i => decide (par p i < p.length)) || !((List.range p.length).all fun i => ldB p p.length i))
theorem noF_ok {t : List Nat} (h : noF t = true) : ∀ p, F40 p → t ≠ shw p := by
  intro p hp e
  have hr : rdL t = p.map some := by
    unfold rdL
    rw [e, words_len]
    refine List.ext_getElem? fun i => ?_
    by_cases hi : i < p.length
    · rw [List.getElem?_map, List.getElem?_range hi, List.getElem?_map, List.getElem?_eq_getElem hi]
      show some (lpar i (wrd (shw p) i)) = some (some p[i])
      rw [wrd_shw hi, lpar_wd (by have := fo_lt hp hi; omega), par_get hi]
    · rw [List.getElem?_eq_none (by simp; omega), List.getElem?_eq_none (by simp; omega)]
  have hf : (p.map some).filterMap id = p := by
    rw [List.filterMap_map]
    exact List.filterMap_some
  unfold noF at h
  rw [hr, hf] at h
  have h0 : (p.map some).any Option.isNone = false := by
    rw [List.any_eq_false]
    intro o ho
    obtain ⟨v, _, rfl⟩ := List.mem_map.mp ho
    simp
  have h1 : (shw p == t) = true := by rw [e]; simp
  have h2 : ((List.range p.length).all fun i => decide (par p i < p.length)) = true := List.all_eq_true.mpr fun i hi => by simpa using par_lt hp.1 (List.mem_range.mp hi)
  have h3 : ((List.range p.length).all fun i => ldB p p.length i) = true := List.all_eq_true.mpr fun i hi => ld_of_fo hp.1 i (List.mem_range.mp hi)
  have h4 := hp.2
  dsimp only at h
  rw [h0, h1, h2, h3, decide_eq_false (by omega)] at h
  cases h
/-- a forest told by computing -/
def isF (p : List Nat) : Bool := decide (p.length ≤ 40) && ((List.range p.length).all fun i => decide (par p i < p.length)) && ((List.range p.length).all fun i => ldB p p.length i)
theorem isF_ok {p : List Nat} (h : isF p = true) : F40 p := by
  unfold isF at h
  simp only [Bool.and_eq_true, decide_eq_true_eq, List.all_eq_true, List.mem_range] at h
  exact ⟨fo_of_ld (fun i hi => by simpa using h.1.2 i hi) h.2, h.1.1⟩
end G

/-! GPathT: the law's path in a row that need not be a forest. -/
namespace G
end G

/-! GPathX: the law's path in a row, a tuple or a list, that need not be a forest. -/
namespace G
def spPathX : Spec := fun ds cs Q _ => ∃ x q i, ds = [x, .int (i : Nat)] ∧ (x = fD q ∨ x = lD q) ∧ (∀ i, i < q.length → par q i < q.length) ∧ i < q.length ∧ q.length ≤ 1000 ∧ ∀ ys, Q (lD (ys ++ [itr q q.length i])) cs
theorem ok_pathX : okFn 4 c_l_path spPathX := by
  rintro ds cs Q X ⟨x, q, i, rfl, hx, hq, hi, hl, hQ⟩
  show wpS (.seq c_l_path_1 (.seq c_l_path_4 (.seq (.frz 2) c_l_path_5))) [some x, some (.int (i : Nat)), none, none] cs _
  have gx : ∀ c, getQ x c = some (nI q) := fun c => by rcases hx with rfl | rfl <;> rfl
  have lx : ∀ (c : Cs) (Q : KD) (X : KX), sLen [x] c Q X = Q (.int (q.length : Nat)) c := fun c Q X => by
    rcases hx with rfl | rfl
    · exact len_fD
    · exact len_lD
  simp only [wpS]
  rw [c_l_path_1]
  simp only [wpS, wpE, wpEs, bindP, getV, List.set, sListM_e]
  refine ⟨show 1 ≤ 16777216 by decide, fun n hn => ?_⟩
  rw [c_l_path_4]
  simp only [wpS, wpE, wpEs, getV]
  rw [lx]
  refine rng1_inv (fun s σ c => ∃ pre a, c = put cs n (.lst (nI (pre ++ [itr q s i]))) ∧ pre.length ≤ s ∧ σ = [some x, some (.int (i : Nat)), some (.ref n), a]) (by omega) (by omega) ⟨[], none, rfl, Nat.zero_le _, rfl⟩ ?_ ?_
  · rintro s σ c hs ⟨pre, a, rfl, lp, rfl⟩ K' h1 h2 h3 h4 h5
    clear h3 h4 h5 h2
    have hk := itr_lt hq s i hi
    rw [c_l_path_3]
    simp [sIx_e, gx, ix_lastI, ix_par hk]
    by_cases e : par q (itr q s i) = itr q s i
    · rw [if_pos e]
      exact h1 _ _ ⟨pre, _, by rw [itr_succ, e], by omega, rfl⟩
    · rw [if_neg e, c_l_path_2]
      simp [sIx_e, gx, ix_lastI, ix_par hk]
      refine ⟨show _ < 16777216 by omega, h1 _ _ ⟨pre ++ [itr q s i], _, ?_, by simp; omega, rfl⟩⟩
      rw [itr_succ]
      simp [nI]
  · rintro σ c ⟨pre, a, rfl, lp, rfl⟩
    rw [c_l_path_5]
    simp
    rw [del_put hn]
    exact hQ pre
end G

namespace K49
open G
open PySem (Str)
open PySem.NumText
def spLRd : G.Spec := fun ds cs Q _ => ∃ w : List Nat, ds = [.str (SX.S w)] ∧ sgn w ∧ w.length ≤ 999 ∧ (∀ p, F40 p → w = shw p → Q (fD p) cs) ∧ ((∀ p, F40 p → w ≠ shw p) → Q .non cs)
theorem isd_eq : ∀ c : Nat, decide (c ∈ ("0123456789" : Str).cps.toList) = isDg c := by
  intro c
  have e : ("0123456789" : Str).cps.toList = [48, 49, 50, 51, 52, 53, 54, 55, 56, 57] := by decide +kernel
  rw [e]
  unfold isDg
  simp only [List.mem_cons, List.not_mem_nil, or_false]
  rw [← Bool.decide_and]
  exact decide_eq_decide.mpr (by omega)
/-- all of a word's signs are digits -/
theorem dig_all {i : Nat} {σ : Sl} {cs : Cs} {w : List Nat} {Q : KD} {X : KX} {j : Nat} (hj : getV σ j = some (.str (SX.S w))) (hl : w.length ≤ 100000) (hg : ∀ d, getV ((wipe σ [i]).set i (some d)) i = some d) (hQ : Q (.bl (w.all isDg)) cs) :
    wpE (.app sAll (.cons (.comp false [i] (.nm i) iStr (.cons (.v j) .nil) (.c (.bl true)) (.app sInStr (.cons (.v i) (.cons (.c (.str "0123456789")) .nil)))) .nil)) σ cs Q X := by
  simp only [wpE, wpEs, hj]
  refine ⟨SX.S w, rfl, ?_⟩
  refine comp_of (fun c : Nat => D.str ⟨#[c]⟩) (fun _ => true) (fun c => .bl (isDg c)) trivial (SX.S w).cps.toList [] (fun c _ => ⟨_, rfl, fun K h => h, fun _ K h => ?_⟩) ?_ ?_
  · rw [hg]
    refine ⟨c, _, rfl, ?_⟩
    rw [isd_eq]
    exact h
  · have : (SX.S w).cps.toList.length = w.length := by simp [SX.S]
    simp only [List.length_nil]
    show 0 + _ ≤ 16777216
    omega
  rw [List.nil_append, List.filter_eq_self.mpr (fun _ _ => rfl)]
  have et : (SX.S w).cps.toList = w := by simp [SX.S]
  rw [et]
  rw [if_neg Bool.false_ne_true]
  have eb : asBools (w.map fun c => D.bl (isDg c)) = some (w.map isDg) := by
    have := asB_map (w.map isDg)
    rw [List.map_map] at this
    exact this
  rw [sAll_e]
  show (match asBools (w.map fun c => D.bl (isDg c)) with
    | some bs => _
    | none => False)
  rw [eb]
  dsimp only
  have ea : (w.map isDg).all id = w.all isDg := by rw [List.all_map]; rfl
  rw [ea]
  exact hQ
theorem ok_lrd : okFnL 9 (c_l_read spPathX spShw) spLRd := by
  rintro ds cs Q X ⟨w, rfl, hw, hl, hQ, hN⟩
  show wpS (.seq (c_l_read_1 spPathX spShw) (.seq (c_l_read_8 spPathX spShw) (.seq (.frz 2) (.seq (c_l_read_10 spPathX spShw) (.seq (c_l_read_11 spPathX spShw) (c_l_read_12 spPathX spShw)))))) [some (.str (SX.S w)), none, none, none, none, none, none, none, none] cs _
  obtain ⟨K0, hK0⟩ : ∃ K0 : Ends, K0 = { nx := fun _ c' => ∃ c, Le c c' ∧ Q .non c, rt := fun d c' => ∃ c, Le c c' ∧ Q d c, ex := fun x _ c' => ∃ c, Le c c' ∧ X x c } := ⟨_, rfl⟩
  rw [← hK0]
  have wl := words_le (t := w)
  have rt0 : K0.rt = fun d c' => ∃ c, Le c c' ∧ Q d c := by rw [hK0]
  -- behind the reading of the words
  have tail : ∀ (row : List Nat) (a3 a4 : Option D), row.length = (words w).length → (∀ i, i < row.length → lpar i (wrd w i) = some (par row i)) →
      wpS (.seq (c_l_read_10 spPathX spShw) (.seq (c_l_read_11 spPathX spShw) (c_l_read_12 spPathX spShw))) [some (.str (SX.S w)), some (.lst ((words w).map fun v => D.str (SX.S v))), some (lD row), a3, a4, none, none, none, none] cs K0 := by
    intro row a3 a4 rl hr
    have hp : ∀ p, F40 p → w = shw p → row = p := fun p hf e => by
      have hlen : row.length = p.length := by rw [rl, e]; exact words_len
      refine par_ext hlen fun i hi => ?_
      have := hr i hi
      rw [e, wrd_shw (by omega), lpar_wd (by have := fo_lt hf (i := i) (by omega); omega)] at this
      exact (Option.some.inj this).symm
    have none_ : (∀ p, F40 p → w ≠ shw p) → K0.rt .non cs := fun h => by
      rw [rt0]
      exact ⟨cs, Le.refl _, hN h⟩
    simp only [wpS]
    rw [c_l_read_10]
    simp only [wpS, wpE, wpEs, getV]
    rw [len_lD, sGt_i]
    have ret9 : (∀ p, F40 p → w ≠ shw p) → ∀ (K : Ends) σ, K.rt = K0.rt → wpS (c_l_read_9 spPathX spShw) σ cs K := fun h K σ e => by
      rw [c_l_read_9]
      simp only [wpS, wpE]
      rw [e]
      exact none_ h
    by_cases h40 : 40 < row.length
    · rw [decide_eq_true (by omega)]
      simp only [if_true]
      refine ret9 (fun p hf e => ?_) _ _ rfl
      have := hp p hf e
      have := hf.2
      subst row
      omega
    rw [decide_eq_false (by omega)]
    simp only [Bool.false_eq_true, if_false, if_true]
    refine iSeq_e (.inl rfl) ?_
    refine comp_of (fun i : Nat => D.int (i : Nat)) (fun _ => true) (fun i => .bl (decide (i < row.length))) (grdL_self) row [] (fun i hi => ⟨_, rfl, fun K h => h, fun _ K hK => ?_⟩) (by show 0 + _ ≤ 16777216; omega) ?_
    · simp only [wipe, List.set, getV]
      rw [len_lD, sLt_i]
      have : decide (((i : Nat) : Int) < ((row.length : Nat) : Int)) = decide (i < row.length) := decide_eq_decide.mpr (by omega)
      rw [this]
      exact hK
    rw [List.nil_append, List.filter_eq_self.mpr (fun _ _ => rfl)]
    rw [sAll_e]
    have eb : asBools (row.map fun i => D.bl (decide (i < row.length))) = some (row.map fun i => decide (i < row.length)) := by
      have := asB_map (row.map fun i => decide (i < row.length))
      rw [List.map_map] at this
      exact this
    show (match asBools (row.map fun i => D.bl (decide (i < row.length))) with
      | some bs => _
      | none => False)
    rw [eb]
    dsimp only
    rw [sNot_e]
    cases hall : (row.map fun i => decide (i < row.length)).all id with
    | false =>
      simp only [Bool.not_false, if_true]
      refine ret9 (fun p hf e => ?_) _ _ rfl
      have := hp p hf e
      subst this
      have : (row.map fun i => decide (i < row.length)).all id = true := by
        refine List.all_eq_true.mpr fun b hb => ?_
        obtain ⟨v, hv, rfl⟩ := List.mem_map.mp hb
        obtain ⟨i, hi, e⟩ := List.getElem_of_mem hv
        have h1 := par_lt hf.1 hi
        rw [par_get hi, e] at h1
        simpa using h1
      rw [this] at hall
      cases hall
    | true =>
      simp only [Bool.not_true, Bool.false_eq_true, if_false]
      have hlt : ∀ i, i < row.length → par row i < row.length := fun i hi => by
        have := List.all_eq_true.mp hall (decide (row[i] < row.length)) (List.mem_map.mpr ⟨row[i], List.getElem_mem hi, rfl⟩)
        rw [par_get hi]
        simpa using this
      rw [show sTupOf [lD row] cs = fun Q _ => Q (fD row) cs from rfl]
      dsimp only
      refine ⟨row, rfl, by omega, fun i hi => by have := hlt i hi; omega, ?_⟩
      have hrng : ∀ i ∈ List.range row.length, i < row.length := fun i hi => List.mem_range.mp hi
      have ss := shw_sgn row
      refine ne_S ss hw ?_
      by_cases he : shw row = w
      · rw [decide_eq_true he]
        simp only [Bool.not_true, Bool.false_eq_true, if_false]
        rw [c_l_read_11]
        simp only [wpS, wpE, wpEs, getV]
        rw [len_lD]
        refine ⟨by omega, by omega, ?_⟩
        rw [rgD_nI]
        refine comp_of (fun i : Nat => D.int (i : Nat)) (fun _ => true) (fun i => .int (itr row row.length i : Nat)) trivial (List.range row.length) [] (fun i hi => ⟨_, rfl, fun K h => h, fun _ K hK => ?_⟩) (by show _ ≤ 16777216; simp; omega) ?_
        · simp only [wipe, List.set, getV]
          refine ⟨_, row, i, rfl, .inr rfl, hlt, hrng i hi, by omega, fun ys => ?_⟩
          dsimp only
          rw [sNeg_e, sIx_e, getQ_lD]
          dsimp only
          rw [ix_lastI]
          exact hK
        rw [List.nil_append, List.filter_eq_self.mpr (fun _ _ => rfl), if_neg Bool.false_ne_true]
        simp only [bindP, List.set]
        rw [c_l_read_12]
        simp only [wpS, wpE, wpEs, getV]
        refine iSeq_e (.inl rfl) ?_
        refine comp_of (fun i : Nat => D.int (itr row row.length i : Nat)) (fun _ => true) (fun i => .bl (decide (par row (itr row row.length i) = itr row row.length i))) (grdS (.inl rfl)) (List.range row.length) [] (fun i hi => ⟨_, rfl, fun K h => h, fun _ K hK => ?_⟩) (by show _ ≤ 16777216; simp; omega) ?_
        · simp only [wipe, List.set, getV]
          rw [sIx_e, getQ_lD]
          dsimp only
          rw [ix_par (itr_lt hlt _ _ (hrng i hi))]
          dsimp only
          rw [sEq_i, int_beq]
          exact hK
        rw [List.nil_append, List.filter_eq_self.mpr (fun _ _ => rfl), if_neg Bool.false_ne_true]
        rw [sAll_e]
        have eb2 : asBools ((List.range row.length).map fun i => D.bl (decide (par row (itr row row.length i) = itr row row.length i))) = some ((List.range row.length).map fun i => decide (par row (itr row row.length i) = itr row row.length i)) := by
          have := asB_map ((List.range row.length).map fun i => decide (par row (itr row row.length i) = itr row row.length i))
          rw [List.map_map] at this
          exact this
        show (match asBools ((List.range row.length).map fun i => D.bl (decide (par row (itr row row.length i) = itr row row.length i))) with
          | some bs => _
          | none => False)
        rw [eb2]
        dsimp only
        cases hg : ((List.range row.length).map fun i => decide (par row (itr row row.length i) = itr row row.length i)).all id with
        | true =>
          simp only [if_true]
          rw [show sTupOf [lD row] cs = fun Q _ => Q (fD row) cs from rfl]
          dsimp only
          rw [rt0]
          refine ⟨cs, Le.refl _, hQ row ⟨fo_of_ld hlt fun i hi => (ring_iff hlt hi).mpr ?_, by omega⟩ he.symm⟩
          have := List.all_eq_true.mp hg _ (List.mem_map.mpr ⟨i, List.mem_range.mpr hi, rfl⟩)
          simpa using this
        | false =>
          simp only [Bool.false_eq_true, if_false, if_true]
          refine none_ fun p hf e => ?_
          have := hp p hf e
          subst this
          have : ((List.range row.length).map fun i => decide (par row (itr row row.length i) = itr row row.length i)).all id = true := by
            refine List.all_eq_true.mpr fun b hb => ?_
            obtain ⟨i, hi, rfl⟩ := List.mem_map.mp hb
            have := (ring_iff hlt (hrng i hi)).mp (ld_of_fo hf.1 i (hrng i hi))
            simpa using this
          rw [this] at hg
          cases hg
      · rw [decide_eq_false he]
        simp only [Bool.not_false, if_true]
        refine ret9 (fun p hf e => ?_) _ _ rfl
        have := hp p hf e
        subst this
        exact he e.symm
  -- the words read
  have loop : ∀ n, cs n = none → wpS (.seq (c_l_read_8 spPathX spShw) (.seq (.frz 2) (.seq (c_l_read_10 spPathX spShw) (.seq (c_l_read_11 spPathX spShw) (c_l_read_12 spPathX spShw))))) [some (.str (SX.S w)), some (.lst ((words w).map fun v => D.str (SX.S v))), some (.ref n), none, none, none, none, none, none] (put cs n (.lst [])) K0 := by
    intro n hn
    refine wpS_seq ?_
    rw [c_l_read_8]
    simp only [wpS, wpE, wpEs, getV]
    have ll : ∀ (c : Cs) (Q : KD) (X : KX), sLen [.lst ((words w).map fun v => D.str (SX.S v))] c Q X = Q (.int ((words w).length : Nat)) c := fun c Q X => by
      rw [len_s (.inl rfl), List.length_map]
    rw [ll]
    refine rng1_inv (fun j σ c => ∃ row a3 a4, c = put cs n (.lst (nI row)) ∧ σ = [some (.str (SX.S w)), some (.lst ((words w).map fun v => D.str (SX.S v))), some (.ref n), a3, a4, none, none, none, none] ∧ row.length = j ∧ j ≤ (words w).length ∧ ∀ i, i < j → lpar i (wrd w i) = some (par row i)) (by omega) (by omega) ⟨[], _, _, rfl, rfl, rfl, Nat.zero_le _, fun i hi => by omega⟩ ?_ ?_
    · rintro j σ c hj ⟨row, a3, a4, rfl, rfl, rl, hjl, hr⟩ K' h1 h2 h3 h4 h5
      have hj : j < (words w).length := by omega
      have hwm := wrd_mem hj
      have hws : sgn (wrd w j) := sgn_sub hw (word_sub hwm)
      have hwl : (wrd w j).length ≤ 999 := by have := word_le hwm; omega
      rw [c_l_read_2]
      simp only [wpS, wpE, wpEs, getV, List.set]
      rw [sIx_e, getQ_l]
      dsimp only
      rw [ix_nat (i := j) (d := .str (SX.S (wrd w j))) (by rw [List.getElem?_map, wrd_get hj]; rfl)]
      simp only [bindP, List.set]
      have snoc : ∀ v, lpar j (wrd w j) = some v → K'.nx [some (.str (SX.S w)), some (.lst ((words w).map fun v => D.str (SX.S v))), some (.ref n), some (.int (j : Nat)), some (.str (SX.S (wrd w j))), none, none, none, none] (put cs n (.lst (nI (row ++ [v])))) := fun v hv => by
        refine h1 _ _ ⟨row ++ [v], _, _, rfl, rfl, by simp [rl], by omega, fun i hi => ?_⟩
        by_cases z : i < j
        · rw [par_snoc (by omega)]
          exact hr i z
        · have : i = j := by omega
          subst this
          rw [hv]
          rw [show par (row ++ [v]) i = v by rw [← rl]; exact par_snoc_last]
      rw [c_l_read_7]
      simp only [wpS, wpE, wpEs, getV]
      rw [dash_S]
      refine eq_S hws (show ∀ x ∈ [45], x < 0x110000 from by decide) ?_
      by_cases hd : wrd w j = [45]
      · rw [decide_eq_true hd]
        simp only [if_true]
        rw [c_l_read_3]
        simp only [wpS, wpE, wpEs, getV, chkL_ref, put_same, sAppend_e, put_put]
        refine ⟨trivial, by show _ < 16777216; rw [nI_len]; omega, ?_⟩
        rw [nI_snoc]
        exact snoc j (by unfold lpar; rw [if_pos hd])
      · rw [decide_eq_false hd]
        simp only [Bool.false_eq_true, if_false, if_true]
        have ret4 : lpar j (wrd w j) = none → ∀ σ c (K : Ends), K.rt = K'.rt → c = put cs n (.lst (nI row)) → wpS (c_l_read_4 spPathX spShw) σ c K := fun h σ c K e ec => by
          rw [c_l_read_4]
          simp only [wpS, wpE]
          rw [e, h4, rt0]
          refine ⟨cs, ?_, hN fun p hf e2 => ?_⟩
          · rw [ec]
            exact (Le.refl cs).put hn
          · have hlen : (words w).length = p.length := by rw [e2]; exact words_len
            rw [e2, wrd_shw (by omega), lpar_wd (by have := fo_lt hf (i := j) (by omega); omega)] at h
            cases h
        rw [c_l_read_6]
        simp only [wpS, wpE_or, wpE_app, wpEs_cons, wpEs_nil, wpE_v, wpE_c, getV]
        rw [S_nil]
        refine eq_S hws (show ∀ x ∈ [], x < 0x110000 by simp) ?_
        by_cases h0 : wrd w j = []
        · rw [decide_eq_true h0]
          simp only [if_true]
          exact ret4 (by unfold lpar; rw [if_neg hd, if_pos (.inl h0)]) _ _ _ rfl rfl
        rw [decide_eq_false h0]
        simp only [Bool.false_eq_true, if_false, if_true]
        refine ⟨by rw [SX.S_len]; show _ ≤ 16777216; omega, ?_⟩
        dsimp only
        rw [SX.S_len, sGt_i]
        by_cases h2 : 2 < (wrd w j).length
        · rw [decide_eq_true (by omega)]
          simp only [if_true]
          exact ret4 (by unfold lpar; rw [if_neg hd, if_pos (.inr (.inl h2))]) _ _ _ rfl rfl
        rw [decide_eq_false (by omega)]
        simp only [Bool.false_eq_true, if_false, if_true]
        have dl := fun (Q : KD) (X : KX) => dig_all (i := 8) (j := 4) (Q := Q) (X := X) (σ := [some (.str (SX.S w)), some (.lst ((words w).map fun v => D.str (SX.S v))), some (.ref n), some (.int (j : Nat)), some (.str (SX.S (wrd w j))), none, none, none, none]) (cs := put cs n (.lst (nI row))) (w := wrd w j) (hj := rfl) (by omega) (fun _ => rfl)
        simp only [wpE_app, wpEs_cons, wpEs_nil] at dl
        refine dl _ _ ?_
        rw [sNot_e]
        cases ha : (wrd w j).all isDg with
        | false =>
          simp only [Bool.not_false, if_true]
          exact ret4 (by unfold lpar; rw [if_neg hd, if_pos (.inr (.inr ha))]) _ _ _ rfl rfl
        | true =>
          simp only [Bool.not_true, Bool.false_eq_true, if_false]
          rw [c_l_read_5]
          simp only [wpS, wpE, wpEs, getV, chkL_ref, put_same]
          refine ⟨trivial, ?_⟩
          refine ⟨SX.S (wrd w j), _, rfl, SX.int_S ha h0 (by omega), by rw [SX.S_len]; omega, ?_⟩
          simp only [sAppend_e, put_same, put_put]
          refine ⟨by show _ < 16777216; rw [nI_len]; omega, ?_⟩
          rw [nI_snoc]
          refine snoc _ ?_
          unfold lpar
          rw [if_neg hd, if_neg]
          rintro (z | z | z)
          · exact h0 z
          · exact h2 z
          · rw [ha] at z; cases z
    · rintro σ c ⟨row, a3, a4, rfl, rfl, rl, _, hr⟩
      simp only [wpS, getV, put_same]
      rw [del_put hn]
      have rl2 : row.length = (words w).length := by omega
      have := tail row a3 a4 rl2 fun i hi => hr i (by omega)
      simp only [wpS] at this
      exact this
  simp only [wpS]
  rw [c_l_read_1]
  simp only [wpS, wpE, wpEs, getV]
  rw [S_nil]
  refine ne_S hw (show ∀ x ∈ [], x < 0x110000 by simp) ?_
  by_cases h : w = []
  · rw [decide_eq_true h]
    simp only [Bool.not_true, Bool.false_eq_true, if_false]
    refine ⟨by show 0 ≤ 16777216; omega, by show 0 ≤ 16777216; omega, fun n hn => ⟨by show 2 ≤ 16777216; omega, ?_⟩⟩
    simp only [bindP, List.set]
    have ew : (words w).map (fun v => D.str (SX.S v)) = [] := by rw [h]; rfl
    have := loop n hn
    rw [ew] at this
    simpa only [wpS, List.length_nil] using this
  · rw [decide_eq_false h]
    simp only [Bool.not_false, if_true]
    refine ⟨⟨_, rfl⟩, split_e (by omega) ⟨by show 0 ≤ 16777216; omega, fun n hn => ⟨by show 2 ≤ 16777216; omega, ?_⟩⟩⟩
    simp only [bindP, List.set]
    have ew : words w = TL.spl [32] 0 [] w := if_neg h
    have := loop n hn
    rw [ew] at this
    simpa only [wpS] using this
end K49

namespace K49
open G
open PySem (Str)
abbrev Lw (c : G.Spec → G.Spec → G.Spec → G.Spec → G.Spec → G.Spec → G.Spec → G.Spec → G.Spec → S) : S := c spOf spLRd (spSR 4) spShw spSome spStart spTake spShw spPFor
theorem lrd_at {w : List Nat} {cs : Cs} {Q : KD} {X : KX} (hs : sgn w) (hl : w.length ≤ 999) : (∀ p, F40 p → w = shw p → Q (fD p) cs) → ((∀ p, F40 p → w ≠ shw p) → Q .non cs) → spLRd [.str (SX.S w)] cs Q X := fun h1 h2 => ⟨w, rfl, hs, hl, h1, h2⟩
def oddC : List (List Nat) := [[32], [45, 32], [32, 45], [48], [49, 32, 48], [45, 32, 45, 49], [45, 32, 48, 48], [45, 32, 50], [45, 32, 32, 48], [45, 32, 48, 10], [45, 32, 43, 48], [49, 32, 50, 32, 48], (List.replicate 40 [45, 32]).flatten ++ [45]]
def goodP : List (List Nat) := [[], [0], [0, 0], [1, 1], List.range 40]
def sgnC : List (List Nat) := [[32], [45], [48], [49], [57], [], [32, 48], [45, 32], [120], [62]]
theorem sgn_e : ([" ", "-", "0", "1", "9", "", " 0", "- ", "x", ">"] : List Str) = sgnC.map SX.S := by decide +kernel
theorem good_e : (["", "-", "- 0", "1 -"] : List Str) = (goodP.take 4).map fun p => SX.S (shw p) := by decide +kernel
theorem odd_e : ([" ", "- ", " -", "0", "1 0", "- -1", "- 00", "- 2", "-  0", "- 0\n", "- +0", "1 2 0"] : List Str) = (oddC.take 12).map SX.S := by decide +kernel
theorem mul_e : PySem.Txt.mul "- " 40 ++ ("-" : Str) = SX.S ((List.replicate 40 [45, 32]).flatten ++ [45]) := by decide +kernel
theorem join_e : PySem.Txt.join " " (List.replicate 40 "-") = SX.S (shw (List.range 40)) := by decide +kernel
theorem odd_no : oddC.all noF = true := by decide +kernel
theorem odd_sg : oddC.all (fun w => w.all fun c => decide (c < 0x110000)) = true := by decide +kernel
theorem odd_ln : oddC.all (fun w => decide (w.length ≤ 999)) = true := by decide +kernel
theorem good_is : goodP.all isF = true := by decide +kernel
theorem mul_ok : PySem.MulOk "- " 40 := by
  exact ⟨by decide +kernel, fun _ _ => by decide +kernel, fun _ _ => by decide +kernel⟩
theorem same4 {x : D} {cs : Cs} {Q : KD} {X : KX} (h : pur 3 x = true) (hQ : Q (.bl true) cs) : spSR 4 [x, x] cs Q X := spSR_p h hQ
theorem pur_S {k : Nat} {w : List Nat} (h : sgn w) : pur k (.str (SX.S w)) = true := pur_str (sgn_ok h)
theorem cat_S {a b : List Nat} {cs : Cs} {Q : KD} {X : KX} (hl : a.length + b.length ≤ 16777216) (hQ : Q (.str (SX.S (a ++ b))) cs) : sAdd [.str (SX.S a), .str (SX.S b)] cs Q X := by
  refine ⟨by rw [SX.S_len, SX.S_len]; exact hl, ?_⟩
  rw [SX.S_cat]
  exact hQ
theorem cutHi_S {a : List Nat} {i : Int} {cs : Cs} {Q : KD} {X : KX} (hi : 0 ≤ i) (hl : a.length ≤ 16777216) (hQ : Q (.str (SX.S (a.take i.toNat))) cs) : sCutHiA [.str (SX.S a), .int i] cs Q X :=
  ⟨_, i, rfl, by rw [SX.S_len]; exact hl, by rw [SX.slice_to hi]; exact hQ⟩
theorem cutLo_S {a : List Nat} {i : Int} {cs : Cs} {Q : KD} {X : KX} (hi : 0 ≤ i) (hl : a.length ≤ 16777216) (hQ : Q (.str (SX.S (a.drop i.toNat))) cs) : sCutLoA [.str (SX.S a), .int i] cs Q X :=
  ⟨_, i, rfl, by rw [SX.S_len]; exact hl, by rw [SX.slice_from hi]; exact hQ⟩
theorem len_S {a : List Nat} {cs : Cs} {Q : KD} {X : KX} (hl : a.length ≤ 16777216) (hQ : Q (.int (a.length : Nat)) cs) : sLen [.str (SX.S a)] cs Q X := ⟨by rw [SX.S_len]; exact hl, by rw [SX.S_len]; exact hQ⟩
theorem err_is : IsEr (er "ParseError" "pos" (.int 0)) (.int 0) := .inl ⟨"pos", by decide +kernel, rfl⟩
theorem goodR : goodP.map (fun p => D.str (SX.S (shw p))) = [.str "", .str "-", .str "- 0", .str "1 -", .str (SX.S (shw (List.range 40)))] := by
  have := congrArg (List.map D.str) good_e
  show [D.str (SX.S (shw [])), D.str (SX.S (shw [0])), D.str (SX.S (shw [0, 0])), D.str (SX.S (shw [1, 1])), D.str (SX.S (shw (List.range 40)))] = _
  have h2 : [D.str "", D.str "-", D.str "- 0", D.str "1 -"] = [D.str (SX.S (shw [])), D.str (SX.S (shw [0])), D.str (SX.S (shw [0, 0])), D.str (SX.S (shw [1, 1]))] := this
  injection h2 with a1 h2
  injection h2 with a2 h2
  injection h2 with a3 h2
  injection h2 with a4 h2
  rw [a1, a2, a3, a4]
theorem oddR : [D.str " ", .str "- ", .str " -", .str "0", .str "1 0", .str "- -1", .str "- 00", .str "- 2", .str "-  0", .str "- 0\n", .str "- +0", .str "1 2 0", .str (PySem.Txt.mul "- " 40 ++ ("-" : Str))] = oddC.map fun w => D.str (SX.S w) := by
  have h1 := congrArg (List.map D.str) odd_e
  rw [List.map_map] at h1
  have h2 : oddC = oddC.take 12 ++ [(List.replicate 40 [45, 32]).flatten ++ [45]] := rfl
  rw [h2, List.map_append, mul_e]
  exact congrArg (· ++ [D.str (SX.S ((List.replicate 40 [45, 32]).flatten ++ [45]))]) h1
theorem ok_law : okFn 13 (Lw c_law) spLaw := by
  rintro ds cs Q X ⟨rfl, hQ⟩
  show wpS (.seq (Lw c_law_1) (.seq (Lw c_law_13) (.seq (Lw c_law_14) (.seq (Lw c_law_15) (Lw c_law_16))))) [some .scr, none, none, none, none, none, none, none, none, none, none, none, none] cs _
  unfold Lw
  simp only [wpS]
  rw [c_law_1]
  simp only [wpS, wpE, wpEs, getV]
  rw [spStart_e]
  intro n hn
  simp only [bindP, List.set]
  have hc : (put cs n .drw) n = some .drw := put_same
  generalize put cs n .drw = c0 at hc
  rw [c_law_13]
  simp only [wpS, wpE, wpEs, getV]
  refine rng1_inv (fun j σ c => ∃ a2 a3 a4 a5 a6 a7 a8 a11, c = c0 ∧ σ = [some .scr, some (.ref n), a2, a3, a4, a5, a6, a7, a8, none, none, a11, none]) (by omega) (by omega) ⟨_, _, _, _, _, _, _, _, rfl, rfl⟩ ?_ ?_
  · rintro j σ c _ ⟨a2, a3, a4, a5, a6, a7, a8, a11, rfl, rfl⟩ K' h1 h2 h3 h4 h5
    rw [c_law_2]
    simp only [wpS, wpE, wpEs, getV, List.set]
    refine spSome_e hc (by decide) (by decide) fun p hp hl => ?_
    have hF : F40 p := ⟨hp, by omega⟩
    have sg := shw_sgn p
    have sl := shw_len hF
    have p40 := hF.2
    simp only [bindP, List.set]
    rw [c_law_3]
    simp only [wpS, wpE, wpEs, getV]
    refine shwF hF ?_
    simp only [bindP, List.set]
    rw [c_law_5]
    simp only [wpS, wpE, wpEs, getV]
    refine shwF hF ⟨rfl, rfl, shwF hF ?_⟩
    refine pfor_good hF ⟨by show 3 ≤ 16777216; omega, by show 3 ≤ 16777216; omega, ?_⟩
    refine same4 ?_ ?_
    · show (decide (3 ≤ 16777216) && purs 2 [D.str (SX.S (shw p)), D.str (SX.S (shw p)), fD p]) = true
      simp only [purs, pur_S sg, pur_fD (k := 1) (xs := p) (by omega), Bool.and_true]
      decide
    rw [sNot_e]
    simp only [Bool.not_true, Bool.false_eq_true, if_false]
    rw [c_law_8]
    simp only [wpS, wpE, wpEs, getV]
    rw [spTake_e]
    refine ⟨hc, by decide, by decide, fun r r0 r4 => ?_⟩
    refine rng1_inv (fun i σ c' => ∃ w a4 a5 a6, c' = c ∧ σ = [some .scr, some (.ref n), some (.int (j : Nat)), some (fD p), a4, a5, a6, a7, a8, none, none, some (.str (SX.S w)), none] ∧ sgn w ∧ w.length ≤ 120 + 2 * i) (by omega) (by omega) ⟨shw p, _, _, _, rfl, rfl, sg, by omega⟩ ?_ ?_
    · rintro i σ c' hi ⟨w, a4, a5, a6, rfl, rfl, hw, hwl⟩ K2 k1 k2 k3 k4 k5
      have hi4 : i < 4 := by omega
      rw [c_law_6]
      simp only [wpS, wpE, wpEs, getV, List.set]
      refine len_S (by omega) ?_
      rw [sAdd_i, spTake_e]
      refine ⟨hc, by omega, by omega, fun q q0 q1 => ?_⟩
      refine ⟨by show 10 ≤ 16777216; omega, ?_⟩
      dsimp only
      rw [spOf_e]
      refine ⟨hc, fun _ => by simp, _, rfl, by simp, by show 10 ≤ 16777216; omega, fun d hd => ?_⟩
      obtain ⟨v, hv, hvs, hvl⟩ : ∃ v, d = .str (SX.S v) ∧ sgn v ∧ v.length ≤ 2 := by
        have e : [D.str " ", .str "-", .str "0", .str "1", .str "9", .str "", .str " 0", .str "- ", .str "x", .str ">"] = sgnC.map fun v => D.str (SX.S v) := by
          have h1 := congrArg (List.map D.str) sgn_e
          rw [List.map_map] at h1
          exact h1
        rw [e] at hd
        obtain ⟨v, hv, rfl⟩ := List.mem_map.mp hd
        refine ⟨v, rfl, ?_, ?_⟩
        · have : sgnC.all (fun w => w.all fun c => decide (c < 0x110000)) = true := by decide +kernel
          intro c hc
          simpa using List.all_eq_true.mp (List.all_eq_true.mp this v hv) c hc
        · have : sgnC.all (fun w => decide (w.length ≤ 2)) = true := by decide +kernel
          simpa using List.all_eq_true.mp this v hv
      subst hv
      refine ⟨by show 2 ≤ 16777216; omega, ?_⟩
      simp only [bindP, List.set]
      rw [c_law_7]
      simp only [wpS, wpE, wpEs, getV]
      refine cutHi_S q0 (by omega) ?_
      refine cat_S (by rw [List.length_take]; omega) ?_
      rw [spTake_e]
      refine ⟨hc, by decide, by decide, fun t t0 t1 => ?_⟩
      rw [sAdd_i]
      refine cutLo_S (by omega) (by omega) ?_
      refine cat_S (by rw [List.length_append, List.length_take, List.length_drop]; omega) ?_
      simp only [bindP, List.set]
      refine k1 _ _ ⟨_, _, _, _, rfl, rfl, fun c hc => ?_, ?_⟩
      · simp only [List.mem_append] at hc
        rcases hc with (hc | hc) | hc
        · exact hw c (List.mem_of_mem_take hc)
        · exact hvs c hc
        · exact hw c (List.mem_of_mem_drop hc)
      · simp only [List.length_append, List.length_take, List.length_drop]
        omega
    · rintro σ c' ⟨w, a4, a5, a6, rfl, rfl, hw, hwl⟩
      have hw9 : w.length ≤ 999 := by omega
      rw [c_law_9]
      simp only [wpS, wpE, wpEs, getV]
      by_cases hf : ∃ q, F40 q ∧ w = shw q
      · obtain ⟨q, hq, e⟩ := hf
        refine lrd_at hw hw9 (fun q' hq' e' => ?_) fun z => (z q hq e).elim
        have : q' = q := shw_inj hq' hq (by rw [← e', e])
        subst this
        simp only [bindP, List.set]
        rw [c_law_10]
        simp only [wpS, wpE, wpEs, getV]
        rw [show sIsN [fD q', .non] c' = fun Q _ => Q (.bl false) c' from rfl]
        simp only [Bool.false_eq_true, if_false]
        refine ⟨by show 3 ≤ 16777216; omega, ?_⟩
        simp only [bindP, List.set]
        rw [c_law_12]
        simp only [wpS, wpE, wpEs, getV]
        subst e
        refine ⟨rfl, rfl, pfor_good hq' ?_⟩
        refine same4 ?_ ?_
        · show (decide (3 ≤ 16777216) && purs 2 [fD q', D.str "", .non]) = true
          simp only [purs, pur_fD (k := 1) (xs := q') (by have := hq'.2; omega), Bool.true_and]
          decide +kernel
        rw [sNot_e]
        simp only [Bool.not_true, Bool.false_eq_true, if_false]
        exact h1 _ _ ⟨_, _, _, _, _, _, _, _, rfl, rfl⟩
      · have hf : ∀ q, F40 q → w ≠ shw q := fun q hq e => hf ⟨q, hq, e⟩
        refine lrd_at hw hw9 (fun q' hq' e' => (hf q' hq' e').elim) fun _ => ?_
        simp only [bindP, List.set]
        rw [c_law_10]
        simp only [wpS, wpE, wpEs, getV]
        rw [show sIsN [.non, .non] c' = fun Q _ => Q (.bl true) c' from rfl]
        simp only [if_true]
        refine ⟨by show 3 ≤ 16777216; omega, ?_⟩
        simp only [bindP, List.set]
        rw [c_law_12]
        simp only [wpS, wpE, wpEs, getV]
        refine ⟨rfl, rfl, pfor_bad hw hw9 hf ⟨.int 0, err_is, ?_⟩⟩
        refine same4 (by decide +kernel) ?_
        rw [sNot_e]
        simp only [Bool.not_true, Bool.false_eq_true, if_false]
        exact h1 _ _ ⟨_, _, _, _, _, _, _, _, rfl, rfl⟩
  · rintro σ c ⟨a2, a3, a4, a5, a6, a7, a8, a11, rfl, rfl⟩
    rw [c_law_14]
    simp only [wpS, wpE, wpEs, getV]
    refine ⟨"- ", 40, rfl, mul_ok, ?_⟩
    refine ⟨by decide +kernel, ?_⟩
    refine ⟨by show 13 ≤ 16777216; omega, ?_⟩
    rw [oddR]
    simp only [bindP, List.set]
    rw [c_law_15]
    simp only [wpS, wpE, wpEs, getV]
    refine ⟨⟨" ", rfl⟩, by show 1 ≤ 16777216; omega, ?_⟩
    refine ⟨by decide, by decide, by decide, ?_⟩
    refine ⟨_, " ", List.replicate 40 "-", rfl, rfl, by decide +kernel, ?_⟩
    rw [join_e]
    refine ⟨by show 5 ≤ 16777216; omega, ?_⟩
    rw [← goodR]
    simp only [bindP, List.set]
    rw [c_law_16]
    simp only [wpS, wpE, wpEs, getV]
    refine iSeq_e (.inl rfl) ?_
    refine comp_of (fun w : List Nat => D.str (SX.S w)) (fun _ => true) (fun _ => D.tup [.str "ParseError", .int 0]) (grdS (.inl rfl)) oddC [] (fun w hw => ⟨_, rfl, fun K h => h, fun _ K hK => ?_⟩) (by decide) ?_
    · simp only [wipe, List.set, getV]
      refine pfor_bad (fun c hc => ?_) ?_ (noF_ok (List.all_eq_true.mp odd_no w hw)) ⟨.int 0, err_is, hK⟩
      · simpa using List.all_eq_true.mp (List.all_eq_true.mp odd_sg w hw) c hc
      · simpa using List.all_eq_true.mp odd_ln w hw
    rw [List.nil_append, List.filter_eq_self.mpr (fun _ _ => rfl), if_neg Bool.false_ne_true]
    refine ⟨by show 2 ≤ 16777216; omega, by show 1 ≤ 16777216; omega, ?_⟩
    refine ⟨by decide, by decide, by decide, ?_⟩
    refine sEq_refl rfl (by decide +kernel) ?_
    dsimp only
    rw [if_pos rfl]
    refine iSeq_e (.inl rfl) ?_
    refine comp_of (fun p : List Nat => D.str (SX.S (shw p))) (fun _ => true) (fun p => D.str (SX.S (shw p))) (grdS (.inl rfl)) goodP [] (fun p hp => ⟨_, rfl, fun K h => h, fun _ K hK => ?_⟩) (by decide) ?_
    · simp only [wipe, List.set, getV]
      have hF := isF_ok (List.all_eq_true.mp good_is p hp)
      exact pfor_good hF (shwF hF hK)
    rw [List.nil_append, List.filter_eq_self.mpr (fun _ _ => rfl), if_neg Bool.false_ne_true]
    refine sEq_refl rfl ?_ ?_
    · show (decide (5 ≤ 16777216) && purs 63 (goodP.map fun p => D.str (SX.S (shw p)))) = true
      rw [purs_of fun x hx => by
        obtain ⟨p, _, rfl⟩ := List.mem_map.mp hx
        exact pur_S (shw_sgn p)]
      rfl
    exact hQ _
end K49

/-! GBor: a cell handed to a def whose promise is about trees: for the call it is read as a tree. -/
namespace G
open PySem PySem.Spec L2
open Evl (Ex)
/-- no list, no cell within -/
inductive FlD : D → Prop
  | non : FlD .non
  | bl (b : Bool) : FlD (.bl b)
  | int (i : Int) : FlD (.int i)
  | str (s : Str) : FlD (.str s)
  | tup (xs : List D) (h : ∀ d ∈ xs, FlD d) : FlD (.tup xs)
section
variable {K : PySem.W.Frag} {wd wd1 wd2 wd' : Wd} {F H H' : Hp} {cs cs' : Cs} {a : Addr}
theorem RpL.each : ∀ {ds : List D} {vs : List V}, (∀ d ∈ ds, ∀ v, Rp K wd d v → Rp K wd2 d v) → RpL K wd ds vs → RpL K wd2 ds vs
  | [], vs, _, r => r
  | d :: ds, vs, h, ⟨v, us, e, r, rr⟩ => ⟨v, us, e, h d List.mem_cons_self v r, RpL.each (fun d' hd => h d' (List.mem_cons_of_mem _ hd)) rr⟩
theorem FlD.rp (hB : ∀ a xs, wd.B a = some (.tup xs) → wd2.B a = some (.tup xs)) {d : D} (h : FlD d) : ∀ v, Rp K wd d v → Rp K wd2 d v := by
  induction h with
  | non => exact fun v r => r
  | bl b => exact fun v r => r
  | int i => exact fun v r => r
  | str s => exact fun v r => r
  | tup xs h ih =>
    rintro v ⟨a, vs, e, hb, r⟩
    exact ⟨a, vs, e, hB _ _ hb, RpL.each ih r⟩
theorem RpL.swap {d' : D} : ∀ {ds : List D} {vs : List V} {i : Nat}, RpL K wd ds vs → (∀ j d, j ≠ i → ds[j]? = some d → ∀ v, Rp K wd d v → Rp K wd1 d v) → (∀ v, vs[i]? = some v → Rp K wd1 d' v) → RpL K wd1 (ds.set i d') vs
  | [], vs, i, r, _, _ => r
  | d :: ds, vs, 0, ⟨v, us, e, r, rr⟩, h, h' => by
    refine ⟨v, us, e, h' v (by rw [e]; rfl), RpL.each (fun d2 hd v2 r2 => ?_) rr⟩
    obtain ⟨j, hj⟩ := List.getElem?_of_mem hd
    exact h (j + 1) d2 (by omega) (by rw [List.getElem?_cons_succ]; exact hj) v2 r2
  | d :: ds, vs, i + 1, ⟨v, us, e, r, rr⟩, h, h' => by
    refine ⟨v, us, e, h 0 d (by omega) rfl v r, RpL.swap rr (fun j d2 hj hd => h (j + 1) d2 (by omega) (by rw [List.getElem?_cons_succ]; exact hd)) fun v2 hv => h' v2 ?_⟩
    rw [e, List.getElem?_cons_succ]
    exact hv
open Classical in
open Classical in
end
section
variable {P : Program} {w : World} {K : PySem.W.Frag} {mg : Str → Option Value} {base : Heap} {k : Nat} {f : Addr} {fd : FuncData} {ps : List Str} {sp : Spec} {i : Nat}
end
end G

/-! GBorM: the same for a def that returns a fresh cell. -/
namespace G
open PySem PySem.Spec L2
open Evl (Ex)
section
variable {K : PySem.W.Frag} {wd wd' : Wd} {F H H' : Hp} {cs cs' : Cs} {a b : Addr}
end
section
variable {P : Program} {w : World} {K : PySem.W.Frag} {mg : Str → Option Value} {base : Heap} {k : Nat} {f : Addr} {fd : FuncData} {ps : List Str} {sp : Spec} {i : Nat}
end
end G

/-! GObjE: methods and classes handed over. -/
namespace G
open PySem PySem.Spec L2
section
variable {P : Program} {w : World} {K : PySem.W.Frag} {mg : Str → Option Value} {base : Heap} {x y m qual : Str} {params : Arguments} {body : List Stmt} {scope : Scope} {C f : Addr} {fd : FuncData} {ps : List Str} {k n : Nat} {sp sp' : Spec} {kws : List (Str × V)} {ks : List Str} {ix : List Nat}
end
end G



namespace K49
open PySem PySem.Spec PyProof.Rows L2 G
theorem facts {P : Program} {w : World} {K : PySem.W.Frag} {h : Heap} {mg : Str → Option Value} {f : Addr} (X : K.In h) (G : h.Ns mainGlobals mg) (hfa : mg ("law" : Str) = some (.ref f)) (cx : He.SaysX fa fn ts tf ex w h K) :
    ∃ fd : FuncData, (∀ (s : Shared) (u : Value), BindsTo s fd ⟨[u], []⟩ [("_law_script", u)]) ∧ ∀ base : Heap, K.In base → base.Ns mainGlobals mg → (∀ p ∈ tf.map (He.cT K), LamX.TabB base mg p.1 p.2) → FnOk P w K mg base (L2N.CX P w) 8 f fd ["_law_script"] (lift K mg spLaw) := by
  have c := cx.t.d
  have e0 := (Bool.and_eq_true_iff.mp cx.more).2
  obtain ⟨eU, e1⟩ := Bool.and_eq_true_iff.mp e0
  obtain ⟨eE, e2⟩ := Bool.and_eq_true_iff.mp e1
  have e_ParseError := e2
  obtain ⟨fd_leads_to_root, D_leads_to_root⟩ := c.def_ 0 (d := d_leads_to_root) rfl
  obtain ⟨fd_is_forest, D_is_forest⟩ := c.def_ 1 (d := d_is_forest) rfl
  obtain ⟨fd_parse_number, D_parse_number⟩ := c.def_ 2 (d := d_parse_number) rfl
  obtain ⟨fd_format_forest, D_format_forest⟩ := c.def_ 3 (d := d_format_forest) rfl
  obtain ⟨fd_parse_parent, D_parse_parent⟩ := c.def_ 4 (d := d_parse_parent) rfl
  obtain ⟨fd_parse_forest, D_parse_forest⟩ := c.def_ 5 (d := d_parse_forest) rfl
  obtain ⟨fd__law_start, D__law_start⟩ := c.def_ 6 (d := d__law_start) rfl
  obtain ⟨fd__law_take, D__law_take⟩ := c.def_ 7 (d := d__law_take) rfl
  obtain ⟨fd__law_of, D__law_of⟩ := c.def_ 8 (d := d__law_of) rfl
  obtain ⟨fd__law_shuffled, D__law_shuffled⟩ := c.def_ 9 (d := d__law_shuffled) rfl
  obtain ⟨fd__law_same, D__law_same⟩ := c.def_ 10 (d := d__law_same) rfl
  obtain ⟨fd__law_size, D__law_size⟩ := c.def_ 11 (d := d__law_size) rfl
  obtain ⟨fd__law_path, D__law_path⟩ := c.def_ 12 (d := d__law_path) rfl
  obtain ⟨fd__law_renamed, D__law_renamed⟩ := c.def_ 13 (d := d__law_renamed) rfl
  obtain ⟨fd__law_forest, D__law_forest⟩ := c.def_ 14 (d := d__law_forest) rfl
  obtain ⟨fd__law_some_forest, D__law_some_forest⟩ := c.def_ 15 (d := d__law_some_forest) rfl
  obtain ⟨fd__law_shown, D__law_shown⟩ := c.def_ 16 (d := d__law_shown) rfl
  obtain ⟨fd__law_read, D__law_read⟩ := c.def_ 17 (d := d__law_read) rfl
  obtain ⟨fd_law, D_law⟩ := c.def_ 18 (d := d_law) rfl
  obtain ⟨fd__law_field, D__law_field⟩ := c.def_ 19 (d := d__law_field) rfl
  obtain ⟨fd__law_outcome, D__law_outcome⟩ := c.def_ 20 (d := d__law_outcome) rfl
  obtain ⟨fd__law_error, D__law_error⟩ := c.def_ 21 (d := d__law_error) rfl
  obtain ⟨fd_ParseError, D_ParseError⟩ := c.def_ 22 (d := d_ParseError) rfl
  have m_leads_to_root : mg "leads_to_root" = _ := He.glo_ok X G (c.fact 0 (f := .glo "leads_to_root") rfl)
  have m_is_forest : mg "is_forest" = _ := He.glo_ok X G (c.fact 1 (f := .glo "is_forest") rfl)
  have m_parse_number : mg "parse_number" = _ := He.glo_ok X G (c.fact 2 (f := .glo "parse_number") rfl)
  have m_format_forest : mg "format_forest" = _ := He.glo_ok X G (c.fact 3 (f := .glo "format_forest") rfl)
  have m_parse_parent : mg "parse_parent" = _ := He.glo_ok X G (c.fact 4 (f := .glo "parse_parent") rfl)
  have m_parse_forest : mg "parse_forest" = _ := He.glo_ok X G (c.fact 5 (f := .glo "parse_forest") rfl)
  have m__law_start : mg "_law_start" = _ := He.glo_ok X G (c.fact 6 (f := .glo "_law_start") rfl)
  have m__law_take : mg "_law_take" = _ := He.glo_ok X G (c.fact 7 (f := .glo "_law_take") rfl)
  have m__law_of : mg "_law_of" = _ := He.glo_ok X G (c.fact 8 (f := .glo "_law_of") rfl)
  have m__law_shuffled : mg "_law_shuffled" = _ := He.glo_ok X G (c.fact 9 (f := .glo "_law_shuffled") rfl)
  have m__law_same : mg "_law_same" = _ := He.glo_ok X G (c.fact 10 (f := .glo "_law_same") rfl)
  have m__law_size : mg "_law_size" = _ := He.glo_ok X G (c.fact 11 (f := .glo "_law_size") rfl)
  have m__law_path : mg "_law_path" = _ := He.glo_ok X G (c.fact 12 (f := .glo "_law_path") rfl)
  have m__law_renamed : mg "_law_renamed" = _ := He.glo_ok X G (c.fact 13 (f := .glo "_law_renamed") rfl)
  have m__law_forest : mg "_law_forest" = _ := He.glo_ok X G (c.fact 14 (f := .glo "_law_forest") rfl)
  have m__law_some_forest : mg "_law_some_forest" = _ := He.glo_ok X G (c.fact 15 (f := .glo "_law_some_forest") rfl)
  have m__law_shown : mg "_law_shown" = _ := He.glo_ok X G (c.fact 16 (f := .glo "_law_shown") rfl)
  have m__law_read : mg "_law_read" = _ := He.glo_ok X G (c.fact 17 (f := .glo "_law_read") rfl)
  have m_law : mg "law" = _ := He.glo_ok X G (c.fact 18 (f := .glo "law") rfl)
  have m__law_field : mg "_law_field" = _ := He.glo_ok X G (c.fact 19 (f := .glo "_law_field") rfl)
  have m__law_outcome : mg "_law_outcome" = _ := He.glo_ok X G (c.fact 20 (f := .glo "_law_outcome") rfl)
  have m__law_error : mg "_law_error" = _ := He.glo_ok X G (c.fact 21 (f := .glo "_law_error") rfl)
  have m_ParseError : mg "ParseError" = _ := He.glo_ok X G (c.fact 22 (f := .glo "ParseError") rfl)
  have n_all : mg "all" = none := He.free_ok X G (c.fact 23 (f := .free "all") rfl)
  have n_bool : mg "bool" = none := He.free_ok X G (c.fact 24 (f := .free "bool") rfl)
  have n_enumerate : mg "enumerate" = none := He.free_ok X G (c.fact 25 (f := .free "enumerate") rfl)
  have n_int : mg "int" = none := He.free_ok X G (c.fact 26 (f := .free "int") rfl)
  have n_isinstance : mg "isinstance" = none := He.free_ok X G (c.fact 27 (f := .free "isinstance") rfl)
  have n_len : mg "len" = none := He.free_ok X G (c.fact 28 (f := .free "len") rfl)
  have n_list : mg "list" = none := He.free_ok X G (c.fact 29 (f := .free "list") rfl)
  have n_max : mg "max" = none := He.free_ok X G (c.fact 30 (f := .free "max") rfl)
  have n_min : mg "min" = none := He.free_ok X G (c.fact 31 (f := .free "min") rfl)
  have n_range : mg "range" = none := He.free_ok X G (c.fact 32 (f := .free "range") rfl)
  have n_str : mg "str" = none := He.free_ok X G (c.fact 33 (f := .free "str") rfl)
  have n_tuple : mg "tuple" = none := He.free_ok X G (c.fact 34 (f := .free "tuple") rfl)
  have n_zip : mg "zip" = none := He.free_ok X G (c.fact 35 (f := .free "zip") rfl)
  have m_MAX_DIGITS := He.int_ok X G (c.fact 36 (f := .int "MAX_DIGITS" 31) rfl)
  have m_MAX_NODES := He.int_ok X G (c.fact 37 (f := .int "MAX_NODES" 40) rfl)
  have m_DIGITS := He.str_ok X G (c.fact 38 (f := .str "DIGITS" "0123456789") rfl)
  have e := hfa.symm.trans m_law
  cases e
  have b := FunD.bindsA (ps := ["_law_script"]) D_law (fun _ _ _ _ _ _ us hl => match us, hl with | [_], _ => rfl)
  have B_leads_to_root : L2.Binds K fd_leads_to_root ["parents", "node"] [] := FunD.bindsN (ps := ["parents", "node"]) D_leads_to_root (fun _ _ _ _ _ _ us hl => match us, hl with | [_, _], _ => rfl)
  have B_is_forest : L2.Binds K fd_is_forest ["parents"] [] := FunD.bindsN (ps := ["parents"]) D_is_forest (fun _ _ _ _ _ _ us hl => match us, hl with | [_], _ => rfl)
  have B_parse_number : L2.Binds K fd_parse_number ["text"] [] := FunD.bindsN (ps := ["text"]) D_parse_number (fun _ _ _ _ _ _ us hl => match us, hl with | [_], _ => rfl)
  have B_format_forest : L2.Binds K fd_format_forest ["forest"] [] := FunD.bindsN (ps := ["forest"]) D_format_forest (fun _ _ _ _ _ _ us hl => match us, hl with | [_], _ => rfl)
  have B_parse_parent : L2.Binds K fd_parse_parent ["node", "text"] [] := FunD.bindsN (ps := ["node", "text"]) D_parse_parent (fun _ _ _ _ _ _ us hl => match us, hl with | [_, _], _ => rfl)
  have B_parse_forest : L2.Binds K fd_parse_forest ["text"] [] := FunD.bindsN (ps := ["text"]) D_parse_forest (fun _ _ _ _ _ _ us hl => match us, hl with | [_], _ => rfl)
  have B__law_start : L2.Binds K fd__law_start ["_law_script"] [] := FunD.bindsN (ps := ["_law_script"]) D__law_start (fun _ _ _ _ _ _ us hl => match us, hl with | [_], _ => rfl)
  have B__law_take : L2.Binds K fd__law_take ["_law_draw", "_law_many"] [] := FunD.bindsN (ps := ["_law_draw", "_law_many"]) D__law_take (fun _ _ _ _ _ _ us hl => match us, hl with | [_, _], _ => rfl)
  have B__law_of : L2.Binds K fd__law_of ["_law_draw", "_law_some"] [] := FunD.bindsN (ps := ["_law_draw", "_law_some"]) D__law_of (fun _ _ _ _ _ _ us hl => match us, hl with | [_, _], _ => rfl)
  have B__law_shuffled : L2.Binds K fd__law_shuffled ["_law_draw", "_law_some"] [] := FunD.bindsN (ps := ["_law_draw", "_law_some"]) D__law_shuffled (fun _ _ _ _ _ _ us hl => match us, hl with | [_, _], _ => rfl)
  have B__law_same : L2.Binds K fd__law_same ["_law_found", "_law_due"] [] := FunD.bindsN (ps := ["_law_found", "_law_due"]) D__law_same (fun _ _ _ _ _ _ us hl => match us, hl with | [_, _], _ => rfl)
  have B__law_size : L2.Binds K fd__law_size ["_law_draw", "_law_most"] [] := FunD.bindsN (ps := ["_law_draw", "_law_most"]) D__law_size (fun _ _ _ _ _ _ us hl => match us, hl with | [_, _], _ => rfl)
  have B__law_path : L2.Binds K fd__law_path ["_law_forest_in", "_law_node"] [] := FunD.bindsN (ps := ["_law_forest_in", "_law_node"]) D__law_path (fun _ _ _ _ _ _ us hl => match us, hl with | [_, _], _ => rfl)
  have B__law_renamed : L2.Binds K fd__law_renamed ["_law_draw", "_law_parents"] [] := FunD.bindsN (ps := ["_law_draw", "_law_parents"]) D__law_renamed (fun _ _ _ _ _ _ us hl => match us, hl with | [_, _], _ => rfl)
  have B__law_forest : L2.Binds K fd__law_forest ["_law_draw", "_law_size_here", "_law_many"] [] := FunD.bindsN (ps := ["_law_draw", "_law_size_here", "_law_many"]) D__law_forest (fun _ _ _ _ _ _ us hl => match us, hl with | [_, _, _], _ => rfl)
  have B__law_some_forest : L2.Binds K fd__law_some_forest ["_law_draw", "_law_most"] [] := FunD.bindsN (ps := ["_law_draw", "_law_most"]) D__law_some_forest (fun _ _ _ _ _ _ us hl => match us, hl with | [_, _], _ => rfl)
  have B__law_shown : L2.Binds K fd__law_shown ["_law_forest_in"] [] := FunD.bindsN (ps := ["_law_forest_in"]) D__law_shown (fun _ _ _ _ _ _ us hl => match us, hl with | [_], _ => rfl)
  have B__law_read : L2.Binds K fd__law_read ["_law_text_in"] [] := FunD.bindsN (ps := ["_law_text_in"]) D__law_read (fun _ _ _ _ _ _ us hl => match us, hl with | [_], _ => rfl)
  have B_law : L2.Binds K fd_law ["_law_script"] [] := FunD.bindsN (ps := ["_law_script"]) D_law (fun _ _ _ _ _ _ us hl => match us, hl with | [_], _ => rfl)
  have B__law_field : L2.Binds K fd__law_field ["_law_e"] [] := FunD.bindsN (ps := ["_law_e"]) D__law_field (fun _ _ _ _ _ _ us hl => match us, hl with | [_], _ => rfl)
  have B__law_outcome : L2.Binds K fd__law_outcome ["_law_ask"] [] := FunD.bindsN (ps := ["_law_ask"]) D__law_outcome (fun _ _ _ _ _ _ us hl => match us, hl with | [_], _ => rfl)
  have B__law_error : L2.Binds K fd__law_error ["_law_ask"] [] := FunD.bindsN (ps := ["_law_ask"]) D__law_error (fun _ _ _ _ _ _ us hl => match us, hl with | [_], _ => rfl)
  have B_ParseError : L2.Binds K fd_ParseError ["self", "pos"] [] := FunD.bindsN (ps := ["self", "pos"]) D_ParseError (fun _ _ _ _ _ _ us hl => match us, hl with | [_, _], _ => rfl)
  refine ⟨fd_law, fun s u => b s [u] rfl, fun base _ _ hT => ?_⟩
  have XC_ParseError : Xc P w K mg base "ParseError" "pos" := xc_of e_ParseError m_ParseError D_ParseError sc_ParseError rfl rfl rfl B_ParseError
  have ER := errs_ok X G eE
  obtain ⟨mE1, mE2, mE3⟩ := errsB_glo X G eE
  have FO : FldOk P w K mg base _ fd__law_field := fld_ok D__law_field sc__law_field rfl (fun hp hN hv h0 he hf hq => fld_body hp hN hv h0 he hf hq)
  have O__law_outcome : OutOk P w K mg base 3 false _ _ _ "_law_outcome" := out_ok FO m__law_field D__law_field.kp B__law_field D__law_outcome m__law_outcome sc__law_outcome rfl rfl rfl rfl rfl rfl rfl rfl rfl mE1 mE2 mE3 B__law_outcome (fun _ _ _ => rfl) (fun _ _ _ => rfl) rfl
  have O__law_error : OutOk P w K mg base 4 true _ _ _ "_law_error" := err_ok O__law_outcome D__law_error m__law_error sc__law_error rfl rfl B__law_error rfl
  have O_leads_to_root : FnOk P w K mg base (L2N.CX P w) 1 _ fd_leads_to_root ["parents", "node"] (lift K mg spLead) := fnOk_of (k := 0) D_leads_to_root sc_leads_to_root (fun ds cs Q PX ⟨_, _, _, e, _⟩ => by rw [e]; rfl) (fun cdv A outer s H E C => js_leads_to_root n_len n_range C) ok_lead
  have F_leads_to_root := fn_mkB D_leads_to_root m_leads_to_root O_leads_to_root B_leads_to_root
  have O_is_forest : FnOk P w K mg base (L2N.CX P w) 2 _ fd_is_forest ["parents"] (lift K mg spIsF) := fnOk_of (k := 1) D_is_forest sc_is_forest (fun ds cs Q PX h => by obtain ⟨_, e, _⟩ := h; rw [e]; rfl) (fun cdv A outer s H E C => js_is_forest n_all n_len n_range m_MAX_NODES F_leads_to_root (by decide) C) ok_isf
  have F_is_forest := fn_mkB D_is_forest m_is_forest O_is_forest B_is_forest
  have O_parse_number : FnOk P w K mg base (L2N.CX P w) 1 _ fd_parse_number ["text"] (lift K mg spPNm) := fnOk_of (k := 0) D_parse_number sc_parse_number (fun ds cs Q PX h => by obtain ⟨_, e, _⟩ := h; rw [e]; rfl) (fun cdv A outer s H E C => js_parse_number n_all n_int n_len m_MAX_DIGITS m_DIGITS C) ok_pnm
  have F_parse_number := fn_mkB D_parse_number m_parse_number O_parse_number B_parse_number
  have O_format_forest : FnOk P w K mg base (L2N.CX P w) 1 _ fd_format_forest ["forest"] (lift K mg spShw) := fnOk_of (k := 0) D_format_forest sc_format_forest (fun ds cs Q PX h => by obtain ⟨_, e, _⟩ := h; rw [e]; rfl) (fun cdv A outer s H E C => js_format_forest n_enumerate n_str C) ok_fmt
  have F_format_forest := fn_mkB D_format_forest m_format_forest O_format_forest B_format_forest
  have K_format_forest_0_forest := fnk_mk (n := 0) (ks := ["forest"]) (ix := [0]) D_format_forest m_format_forest O_format_forest (fun _ _ _ _ _ _ us ws h1 h2 => match us, h1, ws, h2 with | [], _, [_], _ => rfl)
  have O_parse_parent : FnOk P w K mg base (L2N.CX P w) 2 _ fd_parse_parent ["node", "text"] (lift K mg spPPar) := fnOk_of (k := 1) D_parse_parent sc_parse_parent (fun ds cs Q PX h => by obtain ⟨_, _, e, _⟩ := h; rw [e]; rfl) (fun cdv A outer s H E C => js_parse_parent F_parse_number (by decide) C) ok_ppar
  have F_parse_parent := fn_mkB D_parse_parent m_parse_parent O_parse_parent B_parse_parent
  have O_parse_forest : FnOk P w K mg base (L2N.CX P w) 3 _ fd_parse_forest ["text"] (lift K mg spPFor) := fnOk_of (k := 2) D_parse_forest sc_parse_forest (fun ds cs Q PX h => by obtain ⟨_, e, _⟩ := h; rw [e]; rfl) (fun cdv A outer s H E C => js_parse_forest n_enumerate n_tuple F_is_forest (by decide) F_parse_parent (by decide) XC_ParseError (by decide) C) ok_pfor
  have F_parse_forest := fn_mkB D_parse_forest m_parse_forest O_parse_forest B_parse_forest
  have K_parse_forest_0_text := fnk_mk (n := 0) (ks := ["text"]) (ix := [0]) D_parse_forest m_parse_forest O_parse_forest (fun _ _ _ _ _ _ us ws h1 h2 => match us, h1, ws, h2 with | [], _, [_], _ => rfl)
  have O__law_start : FnOk P w K mg base (L2N.CX P w) 1 _ fd__law_start ["_law_script"] (lift K mg spStart) := seal_start (fnOk_of (k := 0) D__law_start sc__law_start (fun ds cs Q PX ⟨e, _⟩ => by rw [e]; rfl) (fun cdv A outer s H E C => js__law_start n_len n_list C) ok_start)
  have F__law_start := fn_mkB D__law_start m__law_start O__law_start B__law_start
  have O__law_take : FnOk P w K mg base (L2N.CX P w) 1 _ fd__law_take ["_law_draw", "_law_many"] (lift K mg spTake) := seal_take (fnOk_of (k := 0) D__law_take sc__law_take (fun ds cs Q PX ⟨_, _, _, _, _, _, e, _⟩ => by rw [e]; rfl) (fun cdv A outer s H E C => js__law_take n_len C) ok_take)
  have F__law_take := fn_mkB D__law_take m__law_take O__law_take B__law_take
  have O__law_of : FnOk P w K mg base (L2N.CX P w) 2 _ fd__law_of ["_law_draw", "_law_some"] (lift K mg spOf) := fnOk_of (k := 1) D__law_of sc__law_of (fun ds cs Q PX ⟨_, _, _, e, _⟩ => by rw [e]; rfl) (fun cdv A outer s H E C => js__law_of n_len F__law_take (by decide) C) ok_of
  have F__law_of := fn_mkB D__law_of m__law_of O__law_of B__law_of
  have O__law_shuffled : FnOk P w K mg base (L2N.CX P w) 2 _ fd__law_shuffled ["_law_draw", "_law_some"] (lift K mg spShuf) := fnOk_of (k := 1) D__law_shuffled sc__law_shuffled (fun ds cs Q PX ⟨_, _, _, e, _⟩ => by rw [e]; rfl) (fun cdv A outer s H E C => js__law_shuffled n_len F__law_take (by decide) C) ok_shuf
  have F__law_shuffled := fn_mkB D__law_shuffled m__law_shuffled O__law_shuffled B__law_shuffled
  have S_same : ∀ i : Nat, i ≤ 64 → Fn P w K mg base "_law_same" i 2 (spSR i) := by
    intro i
    induction i with
    | zero => exact fun _ => fn_mkB (ps := ["_law_found", "_law_due"]) D__law_same m__law_same (sp := spSR 0) fnOk_zeroR B__law_same
    | succ i ih => exact fun hi => fn_mkB D__law_same m__law_same (fnOk_of (k := i) D__law_same sc__law_same (fun ds cs Q PX ⟨_, _, _, e, _⟩ => by rw [e]; rfl) (fun cdv A outer s H E C => js__law_same n_all n_bool n_int n_isinstance n_len n_list n_str n_tuple n_zip (ih (by omega)) (Nat.le_refl _) C) (ok_sameR i (by omega))) B__law_same
  have F__law_same := S_same 4 (by decide)
  have O__law_size : FnOk P w K mg base (L2N.CX P w) 3 _ fd__law_size ["_law_draw", "_law_most"] (lift K mg spSize) := fnOk_of (k := 2) D__law_size sc__law_size (fun ds cs Q PX ⟨_, _, e, _⟩ => by rw [e]; rfl) (fun cdv A outer s H E C => js__law_size n_min F__law_of (by decide) F__law_take (by decide) C) ok_size
  have F__law_size := fn_mkB D__law_size m__law_size O__law_size B__law_size
  have O__law_path : FnOk P w K mg base (L2N.CX P w) 1 _ fd__law_path ["_law_forest_in", "_law_node"] (lift K mg spPathX) := fnOk_of (k := 0) D__law_path sc__law_path (fun ds cs Q PX h => by obtain ⟨_, _, _, e, _⟩ := h; rw [e]; rfl) (fun cdv A outer s H E C => js__law_path n_len n_range C) ok_pathX
  have F__law_path := fn_mkB D__law_path m__law_path O__law_path B__law_path
  have O__law_renamed : FnOk P w K mg base (L2N.CX P w) 3 _ fd__law_renamed ["_law_draw", "_law_parents"] (lift K mg spRen) := fnOk_ofL (k := 2) D__law_renamed sc__law_renamed (fun ds cs Q PX ⟨_, _, _, e, _⟩ => by rw [e]; rfl) (fun cdv A outer s H E C => js__law_renamed n_len n_list n_range n_tuple F__law_shuffled (by decide) C) ok_ren
  have F__law_renamed := fn_mkB D__law_renamed m__law_renamed O__law_renamed B__law_renamed
  have O__law_forest : FnOk P w K mg base (L2N.CX P w) 4 _ fd__law_forest ["_law_draw", "_law_size_here", "_law_many"] (lift K mg spForest) := fnOk_ofL (k := 3) D__law_forest sc__law_forest (fun ds cs Q PX ⟨_, _, _, e, _⟩ => by rw [e]; rfl) (fun cdv A outer s H E C => js__law_forest n_max n_range F__law_renamed (by decide) F__law_take (by decide) C) ok_forest
  have F__law_forest := fn_mkB D__law_forest m__law_forest O__law_forest B__law_forest
  have O__law_some_forest : FnOk P w K mg base (L2N.CX P w) 5 _ fd__law_some_forest ["_law_draw", "_law_most"] (lift K mg spSome) := fnOk_of (k := 4) D__law_some_forest sc__law_some_forest (fun ds cs Q PX ⟨_, _, e, _⟩ => by rw [e]; rfl) (fun cdv A outer s H E C => js__law_some_forest F__law_forest (by decide) F__law_size (by decide) F__law_take (by decide) C) ok_some
  have F__law_some_forest := fn_mkB D__law_some_forest m__law_some_forest O__law_some_forest B__law_some_forest
  have O__law_shown : FnOk P w K mg base (L2N.CX P w) 1 _ fd__law_shown ["_law_forest_in"] (lift K mg spShw) := fnOk_of (k := 0) D__law_shown sc__law_shown (fun ds cs Q PX h => by obtain ⟨_, e, _⟩ := h; rw [e]; rfl) (fun cdv A outer s H E C => js__law_shown n_len n_range n_str C) ok_shw
  have F__law_shown := fn_mkB D__law_shown m__law_shown O__law_shown B__law_shown
  have O__law_read : FnOk P w K mg base (L2N.CX P w) 2 _ fd__law_read ["_law_text_in"] (lift K mg spLRd) := fnOk_ofL (k := 1) D__law_read sc__law_read (fun ds cs Q PX h => by obtain ⟨_, e, _⟩ := h; rw [e]; rfl) (fun cdv A outer s H E C => js__law_read n_all n_int n_len n_range n_tuple F__law_path (by decide) F__law_shown (by decide) C) ok_lrd
  have F__law_read := fn_mkB D__law_read m__law_read O__law_read B__law_read
  exact fnOk_ofC0 (k := 7) D_law sc_law (fun ds cs Q PX ⟨e, _⟩ => by rw [e]; rfl) eU (cx.out (("law" : Str), (none : Option Str)) (List.mem_of_getElem? (i := 18) rfl)) (hT _ (List.mem_map.mpr ⟨(("law" : Str), (none : Option Str)), List.mem_of_getElem? (i := 18) rfl, rfl⟩)) (fun cdv A outer s H E LK C => js_law n_len n_range F__law_of (by decide) F__law_read (by decide) F__law_same (by decide) F__law_shown (by decide) F__law_some_forest (by decide) F__law_start (by decide) F__law_take (by decide) F_format_forest (by decide) F_parse_forest (by decide) (j := 3) ER O__law_error (by decide) O__law_outcome (by decide) (by decide) K_format_forest_0_forest K_parse_forest_0_text LK C) ok_law
end K49
open PySem PySem.W PySem.Calls PyProof.Rows
theorem PySem.Challenge.cw_findforests_k49_texts_of_forests_holds : PySem.Challenge.rw_findforests_k49_texts_of_forests.Holds := by
  w_on; o_law
  refine HandSHeadRun.head_any (r := OpenLaw.row PySem.Challenge.rw_findforests_k49_texts_of_forests) (q := view (OpenLaw.row PySem.Challenge.rw_findforests_k49_texts_of_forests).prog [32]) (H := K49.hk) (ob := K49.ob) (M := 6000) (loose := ("__name__" :: "ForestError" :: "Missing" :: "ParseError" :: "EmptyHistory" :: "MAX_NODES" :: "leads_to_root" :: "is_forest" :: "DIGITS" :: "MAX_DIGITS" :: "parse_number" :: "format_forest" :: "parse_parent" :: "parse_forest" :: "_law_start" :: "_law_take" :: "_law_of" :: "_law_shuffled" :: "_law_same" :: "_law_field" :: "_law_outcome" :: "_law_error" :: "_law_size" :: "_law_path" :: "_law_renamed" :: "_law_forest" :: "_law_some_forest" :: "_law_shown" :: "_law_read" :: [])) (d := HandSHeadRun.topDef (OpenLaw.row PySem.Challenge.rw_findforests_k49_texts_of_forests).prog 32) (kwd := []) K49.ob_eq
    (by kernel_rfl) (fun s => by kernel_rfl) K49.run (by kernel_rfl) (by kernel_rfl) (by kernel_rfl) (by rfl) (by first | assumption | decide +kernel) (by decide +kernel) ⟨rfl, rfl, rfl, rfl, rfl, by decide +kernel⟩ ?hw ?hc
  case hw => w_witness2
  case hc =>
    refine G.walkG (l := PySem.Challenge.rw_findforests_k49_texts_of_forests) (k := 8) (x := "_law_script") (n := 4) (fa := K49.fa) (fn := K49.fn) (ts := K49.ts) (tf := K49.tf) (ex := K49.ex) rfl (by kernel_rfl) ⟨rfl, by decide, by decide⟩ (fun K h => (Bool.and_eq_true_iff.mp h).1) ?F
    intro w mg fa h K KX c Y hmg0
    have hmg : mg ("law" : PySem.Str) = some (.ref fa) := by
      have e : (HandSHeadRun.topDef (OpenLaw.row PySem.Challenge.rw_findforests_k49_texts_of_forests).prog 32).name = ("law" : PySem.Str) := by kernel_rfl
      rw [← e]
      exact hmg0
    exact K49.facts (P := (PySem.Challenge.rw_findforests_k49_texts_of_forests).prog) (w := w) KX Y hmg c
