import PyProof.Rows.All
import PySem.Sem
import HandS.ForMost
import HandS.ForExc
import HandS.Evl
import HandS.Lambda
import HandS.HeadHook4
import HandS.Strs
import HandS.IsInst
import HandS.More
import HandS.Wide
import HandS.Style
import HandS.Flow
import HandS.TupMul
import HandS.Conv
import HandS.CallSlots
import HandS.Iter
import HandS.ExcOwn
import HandS.Zip
import HandS.Defaults
import HandS.WordsExc
import HandS.ExcCtx
import HandS.Dict
import HandS.DictComp
import HandS.Finally
import HandS.SetFor
import HandS.Text
import HandS.SortInts
import HandS.Codes
import PyProof.StrBlock2
import HandS.TupAny
import KE.GoesMore
import HandS.Deep
import HandS.ExcInit
import HandS.ExcField
import HandS.HotCalls
import HandS.TryMany
import KE.KExcInit
import PyProof.ExcBaseAll.LookupError
import PyProof.ExcBaseAll.IndexError
import PyProof.ExcBaseAll.ValueError
import KE.KStateDown
import HandS.Ends
import HandS.Words
import HandS.Head0
import HandS.Head1
import HandS.Head2
import HandS.HeadEnd
import HandS.EndBits
import HandS.HeadHook1
import HandS.HeadHook2
import HandS.HeadWalk
import KE.KTryMore
import PyProof.Rows.TupIter
import KE.KUnpackStar
import HandS.FStr
import HandS.Sort
import HandS.SortKw
import KE.DataMinMax
import HandS.HeadHook3
import HandS.DictTup
import HandS.WordsDict
import HandS.ListEq
import HandS.ListItems
import HandS.SortOrd
import HandS.SortRule
import HandS.DeepEq
import HandS.EndTab
import PyProof.ReprRoads
import PyProof.ReprLen
import PyProof.InstNe
import KE.IntTextText
import PyProof.ReprText
import PySem.Challenge.RW_findforests_k50_texts_of_histories
set_option Elab.async false
set_option linter.all false
set_option maxRecDepth 100000
set_option maxHeartbeats 4000000
namespace G
open PySem PySem.Spec L2
def tabsOf (K : PySem.W.Frag) : List (Addr × Str) := K.filterMap fun q => match q.2.data with
  | .func fd => match fd.code with
    | .ref c => if (K.lookup (He.tabOf K c)).isNone then some (He.tabOf K c, fd.qualname ++ ".<locals>." ++ "<lambda>") else none
    | _ => none
  | _ => none
def tabsB (tf : List He.Defn) (K : PySem.W.Frag) : Bool := (tabsOf K).all fun p => tf.any fun d => (He.cT K d).2 == p.1
def tabsU (K : PySem.W.Frag) : Bool := (tabsOf K).all fun p => (tabsOf K).all fun r => !(p.1 == r.1) || decide (p.2 = r.2)
def clsBody (s : Stmt) : List Stmt := match s with
  | .ClassDef _ _ _ b _ _ _ _ _ _ _ => b
  | _ => []
def xcBases : List (String × String × List Value) := [("ValueError", "ValueError.__new__", [.type "ValueError", .type "Exception", .type "BaseException", .type "object"]), ("LookupError", "LookupError.__new__", [.type "LookupError", .type "Exception", .type "BaseException", .type "object"]),
  ("IndexError", "IndexError.__new__", [.type "IndexError", .type "LookupError", .type "Exception", .type "BaseException", .type "object"])]
def xcB (K : PySem.W.Frag) (C : Addr) : Bool := xcBases.any (fun q => PySem.W.excInitIn K C q.2.2 q.2.1 && PySem.W.excOver K C q.2.2) && (PySem.W.hasDictIn K C && (decide (PySem.W.findIn K (.ref C) "__setattr__" = some (some (.builtin "object.__setattr__"))) &&
  (decide (PySem.W.subIn K (.ref C) (.type "BaseException") = some true) && (decide (PySem.W.typeIn K (.ref C) = some (.type "type")) && PySem.W.keepIn K (.ref C)))))
def clsCB (K : PySem.W.Frag) (x f : Str) : Bool := xcB K (He.ga K x) && (decide (PySem.W.findIn K (.ref (He.ga K x)) "tag" = some none) && (decide (PySem.W.findIn K (.ref (He.ga K x)) f = some none) &&
  (decide (PySem.W.findIn K (.ref (He.ga K x)) "__init__" = some (some (.ref (He.ma K (He.ga K x) "__init__")))) && decide (PySem.W.typeIn K (.ref (He.ma K (He.ga K x) "__init__")) = some (.type "function")))))
theorem run_join {α β γ δ : Type} {x : Option α} {f : α → β} {g : α → γ} {o : α → δ × Bool} {b : β} {c : γ} {d : δ} (h1 : x.map (fun s => (f s, g s)) = some (b, c)) (h2 : x.map (fun s => (o s).1) = some d) (h3 : x.map (fun s => (o s).2) = some true) : x.map (fun s => (f s, g s, o s)) = some (b, c, (d, true)) := by
  cases x with
  | none => cases h1
  | some s =>
    have e1 := Option.some.inj h1
    have e2 := Option.some.inj h2
    have e3 := Option.some.inj h3
    have a1 : f s = b := congrArg (·.1) e1
    have a2 : g s = c := congrArg (·.2) e1
    have a3 : o s = (d, true) := Prod.ext e2 e3
    show some (f s, g s, o s) = _
    rw [a1, a2, a3]
theorem run_and {α : Type} {x : Option α} {f g : α → Bool} (h1 : x.map f = some true) (h2 : x.map g = some true) : x.map (fun s => f s && g s) = some true := by
  cases x with
  | none => cases h1
  | some s =>
    have e1 : f s = true := Option.some.inj h1
    have e2 : g s = true := Option.some.inj h2
    show some (f s && g s) = _
    rw [e1, e2]
    rfl
theorem run_bools {α : Type} {x : Option α} {a b c d : α → Bool} (h1 : x.map (fun s => (a s && c s) && d s) = some true) (h2 : x.map b = some true) : x.map (fun s => (a s && (b s && c s)) && d s) = some true := by
  cases x with
  | none => cases h1
  | some s =>
    have e1 : ((a s && c s) && d s) = true := Option.some.inj h1
    have e2 : b s = true := Option.some.inj h2
    show some ((a s && (b s && c s)) && d s) = _
    rw [e2, Bool.true_and, e1]
end G
namespace G
open PySem HandSHeadRun
def dedF : List Nat → Nat → List Nat → List Nat
  | [], _, bs => bs.reverse
  | a :: l, m, bs => frNat a fun a => match Nat.testBit m a with
    | true => dedF l m bs
    | false => frNat (m ||| (1 <<< a)) fun m => dedF l m (a :: bs)
theorem bit_set {m a b : Nat} : Nat.testBit (m ||| (1 <<< a)) b = (Nat.testBit m b || decide (a = b)) := by
  rw [Nat.testBit_or, Nat.one_shiftLeft, Nat.testBit_two_pow]
theorem dedF_loop : ∀ (l : List Nat) (m : Nat) (bs : List Nat), (∀ b, Nat.testBit m b = bs.any (fun x => b == x)) → dedF l m bs = List.eraseDupsBy.loop (fun x y => x == y) l bs
  | [], m, bs, _ => rfl
  | a :: l, m, bs, h => by
    unfold dedF List.eraseDupsBy.loop
    rw [frNat_eq, h a]
    cases e : bs.any (fun x => a == x) with
    | true =>
      simp only
      exact dedF_loop l m bs h
    | false =>
      simp only
      rw [frNat_eq]
      refine dedF_loop l _ (a :: bs) fun b => ?_
      rw [bit_set, h b, List.any_cons, Bool.or_comm]
      congr 1
      by_cases z : a = b
      · subst z
        simp
      · rw [decide_eq_false z]
        exact (beq_false_of_ne (Ne.symm z)).symm
theorem dedF_eq (l : List Nat) : dedF l 0 [] = l.eraseDups := dedF_loop l 0 [] fun b => by simp
def asF (g : Addr → Option Obj) : Nat → List Addr
  | 0 => [mainGlobals]
  | n + 1 => dedF (asF g n ++ (asF g n).flatMap fun a => match g a with
    | some o => He.refsD o
    | none => []) 0 []
theorem asF_eq {g : Addr → Option Obj} : ∀ n, asF g n = He.asD g n
  | 0 => rfl
  | n + 1 => by
    unfold asF
    rw [dedF_eq, asF_eq n]
    rfl
/-- a list of addresses and objects, forced -/
def frK {α : Type} : PySem.W.Frag → (PySem.W.Frag → α) → α
  | [], k => k []
  | (a, o) :: r, k => frNat a fun a => match o with
    | ⟨c, d, t, z⟩ => frK r fun r => k ((a, ⟨c, d, t, z⟩) :: r)
theorem frK_eq {α : Type} : ∀ (K : PySem.W.Frag) (k : PySem.W.Frag → α), frK K k = k K
  | [], _ => rfl
  | (a, ⟨c, d, t, z⟩) :: r, k => by
    unfold frK
    rw [frNat_eq]
    exact frK_eq r _
/-- what is looked at of K, K forced -/
def lookK {α : Type} (n : Nat) (f : PySem.W.Frag → α) (s : PySem.W.SharedT) : α := frK (He.frT (getT s) (asF (getT s) n)) f
theorem lookK_eq {α : Type} {n : Nat} {f : PySem.W.Frag → α} {s : PySem.W.SharedT} : lookK n f s = f (He.frT (getT s) (He.asD (getT s) n)) := by
  unfold lookK
  rw [frK_eq, asF_eq]
/-- all different -/
def diffF : List Nat → Nat → Bool
  | [], _ => true
  | a :: l, m => frNat a fun a => match Nat.testBit m a with
    | true => false
    | false => frNat (m ||| (1 <<< a)) fun m => diffF l m
theorem diffF_ok : ∀ {l : List Nat} {m : Nat}, diffF l m = true → (∀ a ∈ l, Nat.testBit m a = false) ∧ l.Nodup
  | [], _, _ => And.intro (fun a ha => absurd ha List.not_mem_nil) List.nodup_nil
  | a :: l, m, h => by
    unfold diffF at h
    rw [frNat_eq] at h
    cases e : Nat.testBit m a with
    | true => rw [e] at h; cases h
    | false =>
      rw [e] at h
      simp only at h
      rw [frNat_eq] at h
      obtain ⟨h1, h2⟩ := diffF_ok h
      refine ⟨fun b hb => ?_, List.nodup_cons.mpr ⟨fun z => ?_, h2⟩⟩
      · rcases List.mem_cons.mp hb with rfl | hb
        · exact e
        · have := h1 b hb
          rw [bit_set, Bool.or_eq_false_iff] at this
          exact this.1
      · have := h1 a z
        rw [bit_set] at this
        simp at this
def tabsUF (K : PySem.W.Frag) : Bool := diffF ((tabsOf K).map (·.1)) 0
theorem same_of_nd {l : List (Addr × Str)} (h : (l.map (·.1)).Nodup) : ∀ p ∈ l, ∀ r ∈ l, p.1 = r.1 → p = r := by
  induction l with
  | nil => exact fun p hp => by cases hp
  | cons x l ih =>
    rw [List.map_cons, List.nodup_cons] at h
    intro p hp r hr e
    rcases List.mem_cons.mp hp with rfl | hp'
    · rcases List.mem_cons.mp hr with rfl | hr'
      · rfl
      · exact (h.1 (List.mem_map.mpr ⟨r, hr', e.symm⟩)).elim
    · rcases List.mem_cons.mp hr with rfl | hr'
      · exact (h.1 (List.mem_map.mpr ⟨p, hp', e⟩)).elim
      · exact ih h.2 p hp' r hr' e
theorem tabsUF_ok {K : PySem.W.Frag} (h : tabsUF K = true) : tabsU K = true := by
  have nd := (diffF_ok h).2
  unfold tabsU
  rw [List.all_eq_true]
  intro p hp
  rw [List.all_eq_true]
  intro r hr
  by_cases e : p.1 = r.1
  · have := same_of_nd nd p hp r hr e
    rw [this]
    simp
  · rw [beq_false_of_ne e]
    rfl
def maskF : List Nat → Nat → Nat
  | [], m => m
  | a :: l, m => frNat a fun a => frNat (m ||| (1 <<< a)) fun m => maskF l m
theorem maskF_bit : ∀ (l : List Nat) (m b : Nat), Nat.testBit (maskF l m) b = (Nat.testBit m b || l.any (fun a => a == b))
  | [], m, b => by simp [maskF]
  | a :: l, m, b => by
    unfold maskF
    rw [frNat_eq, frNat_eq, maskF_bit l, bit_set, List.any_cons, Bool.or_assoc]
    by_cases z : a = b
    · simp [z]
    · rw [decide_eq_false z, beq_false_of_ne z]
def tabsBF (tf : List He.Defn) (K : PySem.W.Frag) : Bool := frNat (maskF (tf.map fun d => (He.cT K d).2) 0) fun m => (tabsOf K).all fun p => Nat.testBit m p.1
theorem tabsBF_eq {tf : List He.Defn} {K : PySem.W.Frag} : tabsBF tf K = tabsB tf K := by
  unfold tabsBF tabsB
  rw [frNat_eq]
  congr 1
  funext p
  rw [maskF_bit, Nat.zero_testBit, Bool.false_or, List.any_map]
  rfl
theorem run_imp {α : Type} {x : Option α} {f g : α → Bool} (h : x.map f = some true) (i : ∀ s, f s = true → g s = true) : x.map g = some true := by
  cases x with
  | none => cases h
  | some s => exact congrArg some (i s (Option.some.inj h))
theorem look_of {α : Type} {x : Option PySem.W.SharedT} {n : Nat} {f : PySem.W.SharedT → PySem.W.Frag → α} {b : α} (h : x.map (fun s => lookK n (f s) s) = some b) : x.map (fun s => f s (He.frT (getT s) (He.asD (getT s) n))) = some b := by
  have e : (fun s => lookK n (f s) s) = fun s => f s (He.frT (getT s) (He.asD (getT s) n)) := funext fun s => lookK_eq
  rw [e] at h
  exact h
end G

namespace K50
open PySem PySem.Spec PyProof.Rows L2 G
def top (i : Nat) : Stmt := PySem.Challenge.pw_findforests_k50_texts_of_histories.main.body.getD i (.Pass ⟨0, 0, 0, 0⟩)
abbrev s_check_tuple : Stmt := top 9
abbrev s_check_steps : Stmt := top 10
abbrev s_check_history : Stmt := top 11
abbrev s_parse_number : Stmt := top 15
abbrev s_format_step : Stmt := top 16
abbrev s_format_steps : Stmt := top 17
abbrev s_format_history : Stmt := top 18
abbrev s_parse_history : Stmt := top 20
abbrev s__law_start : Stmt := top 22
abbrev s__law_take : Stmt := top 23
abbrev s__law_of : Stmt := top 24
abbrev s__law_same : Stmt := top 25
abbrev s__law_step : Stmt := top 26
abbrev s__law_rounds : Stmt := top 27
abbrev s__law_written : Stmt := top 28
abbrev s__law_plain : Stmt := top 29
abbrev s__law_text : Stmt := top 30
abbrev s_Reader___init__ : Stmt := (clsBody (top 19)).getD 0 (.Pass ⟨0, 0, 0, 0⟩)
abbrev s_Reader_ahead : Stmt := (clsBody (top 19)).getD 1 (.Pass ⟨0, 0, 0, 0⟩)
abbrev s_Reader_read_number : Stmt := (clsBody (top 19)).getD 2 (.Pass ⟨0, 0, 0, 0⟩)
abbrev s_Reader_expect : Stmt := (clsBody (top 19)).getD 3 (.Pass ⟨0, 0, 0, 0⟩)
abbrev s_Reader_read_step : Stmt := (clsBody (top 19)).getD 4 (.Pass ⟨0, 0, 0, 0⟩)
abbrev s_Reader_read_steps : Stmt := (clsBody (top 19)).getD 5 (.Pass ⟨0, 0, 0, 0⟩)
abbrev s_law : Stmt := top 31
abbrev s_BadStep : Stmt := (clsBody (top 2)).getD 0 (.Pass ⟨0, 0, 0, 0⟩)
theorem sc_BadStep : FnScope ["self", "pos"] ["self", "pos"] (defScope s_BadStep) := ⟨rfl, rfl, rfl, by decide +kernel, rfl, by decide +kernel, by decide +kernel⟩
abbrev s_ParseError : Stmt := (clsBody (top 4)).getD 0 (.Pass ⟨0, 0, 0, 0⟩)
theorem sc_ParseError : FnScope ["self", "pos"] ["self", "pos"] (defScope s_ParseError) := ⟨rfl, rfl, rfl, by decide +kernel, rfl, by decide +kernel, by decide +kernel⟩
abbrev s_TooLong : Stmt := (clsBody (top 3)).getD 0 (.Pass ⟨0, 0, 0, 0⟩)
theorem sc_TooLong : FnScope ["self", "limit"] ["self", "limit"] (defScope s_TooLong) := ⟨rfl, rfl, rfl, by decide +kernel, rfl, by decide +kernel, by decide +kernel⟩
def d_Reader___init__ : He.DefD := ⟨("Reader", some "__init__"), "__init__", "Reader.__init__", defArgs s_Reader___init__, defBody s_Reader___init__, defScope s_Reader___init__, [], []⟩
def d_Reader_ahead : He.DefD := ⟨("Reader", some "ahead"), "ahead", "Reader.ahead", defArgs s_Reader_ahead, defBody s_Reader_ahead, defScope s_Reader_ahead, [], []⟩
def d_Reader_read_number : He.DefD := ⟨("Reader", some "read_number"), "read_number", "Reader.read_number", defArgs s_Reader_read_number, defBody s_Reader_read_number, defScope s_Reader_read_number, [], []⟩
def d_Reader_expect : He.DefD := ⟨("Reader", some "expect"), "expect", "Reader.expect", defArgs s_Reader_expect, defBody s_Reader_expect, defScope s_Reader_expect, [], []⟩
def d_Reader_read_step : He.DefD := ⟨("Reader", some "read_step"), "read_step", "Reader.read_step", defArgs s_Reader_read_step, defBody s_Reader_read_step, defScope s_Reader_read_step, [], []⟩
def d_Reader_read_steps : He.DefD := ⟨("Reader", some "read_steps"), "read_steps", "Reader.read_steps", defArgs s_Reader_read_steps, defBody s_Reader_read_steps, defScope s_Reader_read_steps, [], []⟩
def d_check_tuple : He.DefD := ⟨("check_tuple", none), "check_tuple", "check_tuple", defArgs s_check_tuple, defBody s_check_tuple, defScope s_check_tuple, [], []⟩
def d_check_steps : He.DefD := ⟨("check_steps", none), "check_steps", "check_steps", defArgs s_check_steps, defBody s_check_steps, defScope s_check_steps, [], []⟩
def d_check_history : He.DefD := ⟨("check_history", none), "check_history", "check_history", defArgs s_check_history, defBody s_check_history, defScope s_check_history, [], []⟩
def d_parse_number : He.DefD := ⟨("parse_number", none), "parse_number", "parse_number", defArgs s_parse_number, defBody s_parse_number, defScope s_parse_number, [], []⟩
def d_format_step : He.DefD := ⟨("format_step", none), "format_step", "format_step", defArgs s_format_step, defBody s_format_step, defScope s_format_step, [], []⟩
def d_format_steps : He.DefD := ⟨("format_steps", none), "format_steps", "format_steps", defArgs s_format_steps, defBody s_format_steps, defScope s_format_steps, [], []⟩
def d_format_history : He.DefD := ⟨("format_history", none), "format_history", "format_history", defArgs s_format_history, defBody s_format_history, defScope s_format_history, [], []⟩
def d_parse_history : He.DefD := ⟨("parse_history", none), "parse_history", "parse_history", defArgs s_parse_history, defBody s_parse_history, defScope s_parse_history, [], []⟩
def d__law_start : He.DefD := ⟨("_law_start", none), "_law_start", "_law_start", defArgs s__law_start, defBody s__law_start, defScope s__law_start, [], []⟩
def d__law_take : He.DefD := ⟨("_law_take", none), "_law_take", "_law_take", defArgs s__law_take, defBody s__law_take, defScope s__law_take, [], []⟩
def d__law_of : He.DefD := ⟨("_law_of", none), "_law_of", "_law_of", defArgs s__law_of, defBody s__law_of, defScope s__law_of, [], []⟩
def d__law_same : He.DefD := ⟨("_law_same", none), "_law_same", "_law_same", defArgs s__law_same, defBody s__law_same, defScope s__law_same, [], []⟩
def d__law_step : He.DefD := ⟨("_law_step", none), "_law_step", "_law_step", defArgs s__law_step, defBody s__law_step, defScope s__law_step, [], []⟩
def d__law_rounds : He.DefD := ⟨("_law_rounds", none), "_law_rounds", "_law_rounds", defArgs s__law_rounds, defBody s__law_rounds, defScope s__law_rounds, [], []⟩
def d__law_written : He.DefD := ⟨("_law_written", none), "_law_written", "_law_written", defArgs s__law_written, defBody s__law_written, defScope s__law_written, [], []⟩
def d__law_plain : He.DefD := ⟨("_law_plain", none), "_law_plain", "_law_plain", defArgs s__law_plain, defBody s__law_plain, defScope s__law_plain, [], []⟩
def d__law_text : He.DefD := ⟨("_law_text", none), "_law_text", "_law_text", defArgs s__law_text, defBody s__law_text, defScope s__law_text, [], []⟩
def d_law : He.DefD := ⟨("law", none), "law", "law", defArgs s_law, defBody s_law, defScope s_law, [], []⟩
def d_BadStep : He.DefD := ⟨("BadStep", some "__init__"), "__init__", "BadStep.__init__", defArgs s_BadStep, defBody s_BadStep, defScope s_BadStep, [], []⟩
def d_ParseError : He.DefD := ⟨("ParseError", some "__init__"), "__init__", "ParseError.__init__", defArgs s_ParseError, defBody s_ParseError, defScope s_ParseError, [], []⟩
def d_TooLong : He.DefD := ⟨("TooLong", some "__init__"), "__init__", "TooLong.__init__", defArgs s_TooLong, defBody s_TooLong, defScope s_TooLong, [], []⟩
def fn : List He.DefD := [d_check_tuple, d_check_steps, d_check_history, d_parse_number, d_format_step, d_format_steps, d_format_history, d_parse_history, d__law_start, d__law_take, d__law_of, d__law_same, d__law_step, d__law_rounds, d__law_written, d__law_plain, d__law_text, d_law, d_Reader___init__, d_Reader_ahead, d_Reader_read_number, d_Reader_expect, d_Reader_read_step, d_Reader_read_steps, d_BadStep, d_ParseError, d_TooLong]
def tf : List He.Defn := [(("check_tuple" : Str), (none : Option Str)), (("check_steps" : Str), (none : Option Str)), (("check_history" : Str), (none : Option Str)), (("parse_number" : Str), (none : Option Str)), (("format_step" : Str), (none : Option Str)), (("format_steps" : Str), (none : Option Str)), (("format_history" : Str), (none : Option Str)), (("parse_history" : Str), (none : Option Str)), (("_law_start" : Str), (none : Option Str)), (("_law_take" : Str), (none : Option Str)), (("_law_of" : Str), (none : Option Str)), (("_law_same" : Str), (none : Option Str)), (("_law_step" : Str), (none : Option Str)), (("_law_rounds" : Str), (none : Option Str)), (("_law_written" : Str), (none : Option Str)), (("_law_plain" : Str), (none : Option Str)), (("_law_text" : Str), (none : Option Str)), (("law" : Str), (none : Option Str)), (("BadStep" : Str), some ("__init__" : Str)), (("TooLong" : Str), some ("__init__" : Str)), (("ParseError" : Str), some ("__init__" : Str)), (("Reader" : Str), some ("__init__" : Str)), (("Reader" : Str), some ("ahead" : Str)), (("Reader" : Str), some ("read_number" : Str)), (("Reader" : Str), some ("expect" : Str)), (("Reader" : Str), some ("read_step" : Str)), (("Reader" : Str), some ("read_steps" : Str))]
def ts : List He.Tab := []
def fa : List He.Fa := [.glo "check_tuple", .glo "check_steps", .glo "check_history", .glo "parse_number", .glo "format_step", .glo "format_steps", .glo "format_history", .glo "parse_history", .glo "_law_start", .glo "_law_take", .glo "_law_of", .glo "_law_same", .glo "_law_step", .glo "_law_rounds", .glo "_law_written", .glo "_law_plain", .glo "_law_text", .glo "law", .glo "BadStep", .glo "ParseError", .glo "TooLong", .free "all", .free "bool", .free "int", .free "isinstance", .free "len", .free "list", .free "range", .free "str", .free "tuple", .free "zip", .int "COUNT_LIMIT" 1000000000000000000000000000000, .int "MAX_DIGITS" 31, .int "MAX_NESTING" 4, .int "MAX_STEPS" 100, .str "DIGITS" "0123456789", .glo "Reader", .cls "Reader", .mkr "Reader", .noat "Reader" "at", .noat "Reader" "nesting", .noat "Reader" "text", .meth "Reader" "ahead", .meth "Reader" "read_number", .meth "Reader" "expect", .meth "Reader" "read_step", .meth "Reader" "read_steps"]
def ex (K : PySem.W.Frag) : Bool := tabsB tf K && (tabsU K && (clsCB K "BadStep" "pos" && (clsCB K "ParseError" "pos" && (clsCB K "TooLong" "limit"))))
abbrev R : PySem.W.OpenRow := PySem.W.OpenLaw.row PySem.Challenge.rw_findforests_k50_texts_of_histories
abbrev hk : PySem.W.Hook := He.hookX 4 fa fn ts tf ex
def ob (s : PySem.W.SharedT) : He.AlX := He.obsX 4 fa fn ts tf ex (HandSHeadRun.getT s)
theorem ob_eq (s : PySem.W.SharedT) : ob s = hk.obs s.abs := He.obsX_eq (HandSHeadRun.getT_eq s)
abbrev KK (s : PySem.W.SharedT) : PySem.W.Frag := He.frT (HandSHeadRun.getT s) (He.asD (HandSHeadRun.getT s) 4)
def ex3 (K : PySem.W.Frag) : Bool := (clsCB K "BadStep" "pos" && (clsCB K "ParseError" "pos" && (clsCB K "TooLong" "limit")))
open HandSHeadRun PySem.W in
theorem run_a (w : World) (os : OsState) : (HandSHeadRun.endF (HandSHeadRun.stepQ (HandSHeadRun.denQ HandSHeadRun.tabQ) R.prog w) 6000 R.prog w os).map (fun s => (looksF R.prog (boot_heap w.params) s.abs, seenQ (PySem.W.view R.prog [31]) ("__name__" :: "ForestError" :: "BadStep" :: "TooLong" :: "ParseError" :: "MAX_STEPS" :: "MAX_NESTING" :: "COUNT_LIMIT" :: "check_tuple" :: "check_steps" :: "check_history" :: "DIGITS" :: "MAX_DIGITS" :: "parse_number" :: "format_step" :: "format_steps" :: "format_history" :: "Reader" :: "parse_history" :: "_law_start" :: "_law_take" :: "_law_of" :: "_law_same" :: "_law_step" :: "_law_rounds" :: "_law_written" :: "_law_plain" :: "_law_text" :: []) (importedModules R.prog.main.body) (fun s => xlAt (PySem.W.view R.prog [31]) [] s && recOk R.toRowW.records s) s.abs)) = some (true, openGood (PySem.W.view R.prog [31]) ("__name__" :: "ForestError" :: "BadStep" :: "TooLong" :: "ParseError" :: "MAX_STEPS" :: "MAX_NESTING" :: "COUNT_LIMIT" :: "check_tuple" :: "check_steps" :: "check_history" :: "DIGITS" :: "MAX_DIGITS" :: "parse_number" :: "format_step" :: "format_steps" :: "format_history" :: "Reader" :: "parse_history" :: "_law_start" :: "_law_take" :: "_law_of" :: "_law_same" :: "_law_step" :: "_law_rounds" :: "_law_written" :: "_law_plain" :: "_law_text" :: [])) := by
  kernel_rfl
theorem run_bL (w : World) (os : OsState) : (HandSHeadRun.endF (HandSHeadRun.stepQ (HandSHeadRun.denQ HandSHeadRun.tabQ) R.prog w) 6000 R.prog w os).map (fun s => lookK 4 (He.obsT fa fn ts) s) = some (hk.val w).1 := by
  kernel_rfl
theorem run_c1L (w : World) (os : OsState) : (HandSHeadRun.endF (HandSHeadRun.stepQ (HandSHeadRun.denQ HandSHeadRun.tabQ) R.prog w) 6000 R.prog w os).map (fun s => lookK 4 (fun K => tabsBF tf K && ex3 K) s) = some true := by
  kernel_rfl
theorem run_c2L (w : World) (os : OsState) : (HandSHeadRun.endF (HandSHeadRun.stepQ (HandSHeadRun.denQ HandSHeadRun.tabQ) R.prog w) 6000 R.prog w os).map (fun s => lookK 4 tabsUF s) = some true := by
  kernel_rfl
theorem run_c3L (w : World) (os : OsState) : (HandSHeadRun.endF (HandSHeadRun.stepQ (HandSHeadRun.denQ HandSHeadRun.tabQ) R.prog w) 6000 R.prog w os).map (fun s => lookK 4 (He.tabsB (HandSHeadRun.getT s) tf) s) = some true := by
  kernel_rfl
theorem run_b (w : World) (os : OsState) : (HandSHeadRun.endF (HandSHeadRun.stepQ (HandSHeadRun.denQ HandSHeadRun.tabQ) R.prog w) 6000 R.prog w os).map (fun s => (ob s).1) = some (hk.val w).1 :=
  look_of (f := fun _ => He.obsT fa fn ts) (run_bL w os)
theorem run_c1 (w : World) (os : OsState) : (HandSHeadRun.endF (HandSHeadRun.stepQ (HandSHeadRun.denQ HandSHeadRun.tabQ) R.prog w) 6000 R.prog w os).map (fun s => (tabsB tf (KK s) && ex3 (KK s)) && He.tabsB (HandSHeadRun.getT s) tf (KK s)) = some true :=
  run_and (run_imp (look_of (f := fun _ => fun K => tabsBF tf K && ex3 K) (run_c1L w os)) fun s h => by
    have h : (tabsBF tf (KK s) && ex3 (KK s)) = true := h
    rw [tabsBF_eq] at h
    exact h) (look_of (f := fun s => He.tabsB (HandSHeadRun.getT s) tf) (run_c3L w os))
theorem run_c2 (w : World) (os : OsState) : (HandSHeadRun.endF (HandSHeadRun.stepQ (HandSHeadRun.denQ HandSHeadRun.tabQ) R.prog w) 6000 R.prog w os).map (fun s => tabsU (KK s)) = some true :=
  run_imp (look_of (f := fun _ => tabsUF) (run_c2L w os)) fun s h => tabsUF_ok h
theorem ob2 (s : PySem.W.SharedT) : (ob s).2 = ((tabsB tf (KK s) && (tabsU (KK s) && ex3 (KK s))) && He.tabsB (HandSHeadRun.getT s) tf (KK s)) := by
  kernel_rfl
theorem run_c (w : World) (os : OsState) : (HandSHeadRun.endF (HandSHeadRun.stepQ (HandSHeadRun.denQ HandSHeadRun.tabQ) R.prog w) 6000 R.prog w os).map (fun s => (ob s).2) = some true := by
  have e : (fun s => (ob s).2) = _ := funext ob2
  rw [e]
  exact run_bools (run_c1 w os) (run_c2 w os)
open HandSHeadRun PySem.W in
theorem run_z (w : World) (os : OsState) : (HandSHeadRun.endF (HandSHeadRun.stepQ (HandSHeadRun.denQ HandSHeadRun.tabQ) R.prog w) 6000 R.prog w os).map (fun s => (looksF R.prog (boot_heap w.params) s.abs, seenQ (PySem.W.view R.prog [31]) ("__name__" :: "ForestError" :: "BadStep" :: "TooLong" :: "ParseError" :: "MAX_STEPS" :: "MAX_NESTING" :: "COUNT_LIMIT" :: "check_tuple" :: "check_steps" :: "check_history" :: "DIGITS" :: "MAX_DIGITS" :: "parse_number" :: "format_step" :: "format_steps" :: "format_history" :: "Reader" :: "parse_history" :: "_law_start" :: "_law_take" :: "_law_of" :: "_law_same" :: "_law_step" :: "_law_rounds" :: "_law_written" :: "_law_plain" :: "_law_text" :: []) (importedModules R.prog.main.body) (fun s => xlAt (PySem.W.view R.prog [31]) [] s && recOk R.toRowW.records s) s.abs, ob s)) = some (true, openGood (PySem.W.view R.prog [31]) ("__name__" :: "ForestError" :: "BadStep" :: "TooLong" :: "ParseError" :: "MAX_STEPS" :: "MAX_NESTING" :: "COUNT_LIMIT" :: "check_tuple" :: "check_steps" :: "check_history" :: "DIGITS" :: "MAX_DIGITS" :: "parse_number" :: "format_step" :: "format_steps" :: "format_history" :: "Reader" :: "parse_history" :: "_law_start" :: "_law_take" :: "_law_of" :: "_law_same" :: "_law_step" :: "_law_rounds" :: "_law_written" :: "_law_plain" :: "_law_text" :: []), ((hk.val w).1, true)) := by
  have h := run_join (run_a w os) (run_b w os) (run_c w os)
  exact h
theorem run (w : World) : HandSHeadRun.RunEq R (PySem.W.view R.prog [31]) hk ob 6000 ("__name__" :: "ForestError" :: "BadStep" :: "TooLong" :: "ParseError" :: "MAX_STEPS" :: "MAX_NESTING" :: "COUNT_LIMIT" :: "check_tuple" :: "check_steps" :: "check_history" :: "DIGITS" :: "MAX_DIGITS" :: "parse_number" :: "format_step" :: "format_steps" :: "format_history" :: "Reader" :: "parse_history" :: "_law_start" :: "_law_take" :: "_law_of" :: "_law_same" :: "_law_step" :: "_law_rounds" :: "_law_written" :: "_law_plain" :: "_law_text" :: []) w := by
  intro os
  refine @Eq.mpr _ _ ?_ (run_z w os)
  kernel_rfl
end K50

/-! GCore: a small core language of expressions and statements over trees and cells, and what must hold ahead of it (weakest preconditions). -/
namespace G
open PySem (Str Arguments Expr Scope)

/-- a lambda's text: its def's qualified name with <lambda>, its parameters' whole numbers as defaults -/
structure LamT where
  q : Str
  params : Arguments
  body : Expr
  scope : Scope
  dfl : List Int
  deriving Inhabited
/-- values: trees; a cell by its number; a lambda by its number, its text, its cells -/
inductive D where
  | non
  | bl (b : Bool)
  | int (i : Int)
  | str (s : Str)
  | tup (xs : List D)
  | lst (xs : List D)
  | dic (ks vs : List D)
  | ref (n : Nat)
  | scr
  | clo (j : Nat) (t : LamT) (cl : List (Str × Nat))
  deriving Inhabited

/-- what a cell holds -/
inductive Ob where
  | lst (xs : List D)
  | dic (ks vs : List D)
  | ins (C : Nat) (fs : List (Str × D))
  | drw
  | set (w : PySem.World) (m : Nat) (S : Int → Bool) (n : Nat)
  | dit (l : List (List (Sum Int Str) × D))
abbrev Cs := Nat → Option Ob
def put (cs : Cs) (n : Nat) (o : Ob) : Cs := fun m => if m = n then some o else cs m
def del (cs : Cs) (n : Nat) : Cs := fun m => if m = n then none else cs m
/-- keys as values -/
def kD : Sum Int Str → D
  | .inl i => .int i
  | .inr x => .str x
abbrev DL := List (Sum Int Str × D)
def dicO (l : DL) : Ob := .dic (l.map fun p => kD p.1) (l.map (·.2))
def putA (l : DL) (k : Sum Int Str) (d : D) : DL := if (l.any fun p => decide (p.1 = k)) = true then l.map (fun p => if p.1 = k then (p.1, d) else p) else l ++ [(k, d)]
/-- an error: the name of its class, its fields -/
structure Er where
  tag : Str
  fs : List (Str × D)
abbrev KD := D → Cs → Prop
abbrev KX := Er → Cs → Prop
abbrev Spec := List D → Cs → KD → KX → Prop
abbrev ISpec := List D → Cs → (List D → (Cs → Prop) → Prop) → Prop
abbrev Sl := List (Option D)

/-- targets -/
inductive Pat where
  | nm (i : Nat)
  | nil
  | cons (p q : Pat)
  | tup (p : Pat)
@[simp] def bindP : Pat → List D → Sl → Option Sl
  | .nm i, [d], σ => some (σ.set i (some d))
  | .nil, [], σ => some σ
  | .cons p q, d :: ds, σ => match bindP p [d] σ with
    | some σ' => bindP q ds σ'
    | none => none
  | .tup p, [.tup ds], σ => bindP p ds σ
  | _, _, _ => none

/-- an error with one field, without -/
def er (tag f : Str) (d : D) : Er := ⟨tag, [(f, d), ("tag", .str tag)]⟩
def er0 (tag : Str) : Er := ⟨tag, [("tag", .str tag)]⟩
/-- the errors' fields -/
def fname (t : Str) : Option Str :=
  if t ∈ (["BadParent", "Cycle", "NotRoot", "SameRoot", "RootsDiffer", "NoWay", "BadWeight", "NoNode"] : List Str) then some "node"
  else if t ∈ (["TooManyNodes", "TooLong", "TooManyForests", "TooManyWatches"] : List Str) then some "limit"
  else if t ∈ (["BadStep", "BadCost", "Contradiction", "ParseError"] : List Str) then some "pos"
  else if t ∈ (["SizesDiffer", "BadSize"] : List Str) then some "size"
  else if t ∈ (["BadName", "NameTaken", "NoForest"] : List Str) then some "name"
  else if t = "BadCommand" then some "word"
  else if t = "BadCount" then some "count"
  else if t = "NoWatch" then some "number"
  else none
/-- what is told of an error -/
def IsEr (x : Er) (d : D) : Prop := (∃ f, fname x.tag = some f ∧ x = er x.tag f d) ∨ (x = er0 "EmptyHistory" ∧ d = .non)
/-- the triple (answer, tag, field), without the answer -/
def outD (k : Bool) (a : D) (t : Str) (d : D) : D := if k = true then .tup [.str t, d] else .tup [a, .str t, d]
def permL {α : Type} (ix : List Nat) (l : List α) : List α := ix.filterMap fun i => l[i]?
mutual
inductive E where
  | v (i : Nat)
  | c (d : D)
  | app (sp : Spec) (as : Es)
  | appk (n m : Nat) (ix : List Nat) (sp : Spec) (as bs : Es)
  | meth (chk : D → Cs → Prop) (sp : Spec) (o : E) (as : Es)
  | ite (c a b : E)
  | and (a b : E)
  | or (a b : E)
  | chain (s1 s2 : Spec) (a b c : E)
  | comp (m : Bool) (own : List Nat) (p : Pat) (it : ISpec) (as : Es) (c e : E)
  | dcomp (own : List Nat) (p : Pat) (it : ISpec) (as : Es) (c ek ev : E)
  | comp2 (m : Bool) (own own1 : List Nat) (p : Pat) (it : ISpec) (as : Es) (p1 : Pat) (it1 : ISpec) (as1 : Es) (e : E)
  | out (k : Bool) (e : E)
  | outv (k : Bool) (cl : List (Str × Nat)) (a : E) (l : Lt)
inductive Es where
  | nil
  | cons (e : E) (es : Es)
inductive Lt where
  | nil
  | cons (t : LamT) (e : E) (r : Lt)
end

inductive S where
  | skip
  | seq (a b : S)
  | asg (p : Pat) (e : E)
  | exp (e : E)
  | ret (e : E)
  | ite (c : E) (a b : S)
  | whl (c : E) (b : S)
  | fr (p : Pat) (it : ISpec) (as : Es) (b : S)
  | brk
  | cont
  | rse (sp : List D → Er) (as : Es)
  | frz (i : Nat)
  | clr (i : Nat)
  | shut (i : Nat)
  | fin (a b : S)
  | tr (c : Er → Bool) (a : S) (b : Er → S)

@[simp] def getV : Sl → Nat → Option D
  | [], _ => none
  | x :: _, 0 => x
  | _ :: r, i + 1 => getV r i
def wipe (σ : Sl) : List Nat → Sl
  | [] => σ
  | i :: r => (wipe σ r).set i none

abbrev lim : Nat := 16777216
/-- the turns of a comprehension -/
def compL (p : Pat) (grd : Cs → Prop) (σ : Sl) (tst elt : Sl → Cs → KD → Prop) (Q : List D → Cs → Prop) : List D → List D → Cs → Prop
  | [], acc, cs => grd cs ∧ Q acc cs
  | x :: xs, acc, cs => grd cs ∧ match bindP p [x] σ with
    | none => False
    | some σ1 => tst σ1 cs fun b cs1 => (b = .bl true ∧ elt σ1 cs1 fun y cs2 => acc.length < lim ∧ compL p grd σ tst elt Q xs (acc ++ [y]) cs2) ∨ (b = .bl false ∧ compL p grd σ tst elt Q xs acc cs1)

/-- a comprehension of two clauses -/
def comp2L (p : Pat) (grd : Cs → Prop) (σ : Sl) (inn : Sl → List D → Cs → (List D → Cs → Prop) → Prop) (Q : List D → Cs → Prop) : List D → List D → Cs → Prop
  | [], acc, cs => grd cs ∧ Q acc cs
  | x :: xs, acc, cs => grd cs ∧ match bindP p [x] σ with
    | none => False
    | some σ1 => inn σ1 acc cs fun acc' cs' => comp2L p grd σ inn Q xs acc' cs'
/-- a dict comprehension: the dict is cell n from the start -/
def compD (n : Nat) (p : Pat) (grd : Cs → Prop) (σ : Sl) (tst ek ev : Sl → Cs → KD → Prop) (Q : Cs → Prop) : List D → Cs → Prop
  | [], cs => grd cs ∧ Q cs
  | x :: xs, cs => grd cs ∧ match bindP p [x] σ with
    | none => False
    | some σ1 => tst σ1 cs fun b cs1 => (b = .bl true ∧ ek σ1 cs1 fun y cs2 => ev σ1 cs2 fun z cs3 => ∃ l k, y = kD k ∧ cs3 n = some (dicO l) ∧ l.length < lim ∧ compD n p grd σ tst ek ev Q xs (put cs3 n (dicO (putA l k z)))) ∨ (b = .bl false ∧ compD n p grd σ tst ek ev Q xs cs1)
mutual
@[simp] def wpE : E → Sl → Cs → KD → KX → Prop
  | .v i, σ, cs, Q, _ => match getV σ i with
    | some d => Q d cs
    | none => False
  | .c d, _, cs, Q, _ => Q d cs
  | .app sp as, σ, cs, Q, X => wpEs as σ cs (fun ds cs' => sp ds cs' Q X) X
  | .appk n m ix sp as bs, σ, cs, Q, X => wpEs as σ cs (fun ds c1 => wpEs bs σ c1 (fun es c2 => ds.length = n ∧ es.length = m ∧ sp (permL ix (ds ++ es)) c2 Q X) X) X
  | .meth chk sp o as, σ, cs, Q, X => wpE o σ cs (fun d c1 => chk d c1 ∧ wpEs as σ c1 (fun ds c2 => sp (d :: ds) c2 Q X) X) X
  | .ite c a b, σ, cs, Q, X => wpE c σ cs (fun d cs' => match d with
    | .bl k => if k = true then wpE a σ cs' Q X else wpE b σ cs' Q X
    | _ => False) X
  | .and a b, σ, cs, Q, X => wpE a σ cs (fun d cs' => match d with
    | .bl k => if k = true then wpE b σ cs' Q X else Q (.bl false) cs'
    | _ => False) X
  | .or a b, σ, cs, Q, X => wpE a σ cs (fun d cs' => match d with
    | .bl k => if k = true then Q (.bl true) cs' else wpE b σ cs' Q X
    | _ => False) X
  | .chain s1 s2 a b c, σ, cs, Q, X => wpE a σ cs (fun x c1 => wpE b σ c1 (fun y c2 => s1 [x, y] c2 (fun d c3 => match d with
    | .bl k => if k = true then wpE c σ c3 (fun z c4 => s2 [y, z] c4 (fun d c5 => match d with
      | .bl k' => Q (.bl k') c5
      | _ => False) X) X else Q (.bl false) c3
    | _ => False) X) X) X
  | .comp m own p it as c e, σ, cs, Q, X => wpEs as σ cs (fun ds c1 => it ds c1 fun items grd =>
      compL p grd (wipe σ own) (fun σ1 c2 K => wpE c σ1 c2 K (fun _ _ => False)) (fun σ1 c2 K => wpE e σ1 c2 K (fun _ _ => False))
        (fun ys c3 => if m = true then ∀ n, c3 n = none → Q (.ref n) (put c3 n (.lst ys)) else Q (.lst ys) c3) items [] c1) X
  | .dcomp own p it as c ek ev, σ, cs, Q, X => wpEs as σ cs (fun ds c1 => it ds c1 fun items grd => ∀ n, c1 n = none →
      compD n p grd (wipe σ own) (fun σ1 c2 K => wpE c σ1 c2 K (fun _ _ => False)) (fun σ1 c2 K => wpE ek σ1 c2 K (fun _ _ => False)) (fun σ1 c2 K => wpE ev σ1 c2 K (fun _ _ => False)) (fun c3 => Q (.ref n) c3) items (put c1 n (dicO []))) X
  | .comp2 m own own1 p it as p1 it1 as1 e, σ, cs, Q, X => wpEs as σ cs (fun ds c1 => it ds c1 fun items grd =>
      comp2L p grd (wipe σ own) (fun σ1 acc c2 K => wpEs as1 σ1 c2 (fun ds1 c3 => it1 ds1 c3 fun items1 grd1 =>
        compL p1 grd1 (wipe σ1 own1) (fun _ c4 K => K (.bl true) c4) (fun σ2 c4 K => wpE e σ2 c4 K (fun _ _ => False)) K items1 acc c3) (fun _ _ => False))
        (fun ys c3 => if m = true then ∀ n, c3 n = none → Q (.ref n) (put c3 n (.lst ys)) else Q (.lst ys) c3) items [] c1) X
  | .out k e, σ, cs, Q, _ => wpE e σ cs (fun d c1 => Q (outD k d "" .non) c1) (fun x c1 => ∃ d, IsEr x d ∧ Q (outD k .non x.tag d) c1)
  | .outv k cl a l, σ, cs, Q, X => wpE a σ cs (fun d c1 => match d with
    | .clo j t cl' => cl' = cl ∧ wpL j l t σ c1 (fun d c2 => Q (outD k d "" .non) c2) (fun x c2 => ∃ d, IsEr x d ∧ Q (outD k .non x.tag d) c2)
    | _ => False) X
@[simp] def wpEs : Es → Sl → Cs → (List D → Cs → Prop) → KX → Prop
  | .nil, _, cs, Q, _ => Q [] cs
  | .cons e es, σ, cs, Q, X => wpE e σ cs (fun d c1 => wpEs es σ c1 (fun ds c2 => Q (d :: ds) c2) X) X
@[simp] def wpL : Nat → Lt → LamT → Sl → Cs → KD → KX → Prop
  | 0, .cons t' e _, t, σ, cs, Q, X => t = t' ∧ wpE e σ cs Q X
  | j + 1, .cons _ _ r, t, σ, cs, Q, X => wpL j r t σ cs Q X
  | _, .nil, _, _, _, _, _ => False
end

structure Ends where
  nx : Sl → Cs → Prop
  bk : Sl → Cs → Prop := fun _ _ => False
  ct : Sl → Cs → Prop := fun _ _ => False
  rt : KD
  ex : Er → Sl → Cs → Prop := fun _ _ _ => False

def forL (p : Pat) (grd : Cs → Prop) (body : Sl → Cs → Ends → Prop) (K : Ends) : List D → Sl → Cs → Prop
  | [], σ, cs => grd cs ∧ K.nx σ cs
  | x :: xs, σ, cs => grd cs ∧ match bindP p [x] σ with
    | none => False
    | some σ1 => body σ1 cs { nx := fun σ' cs' => forL p grd body K xs σ' cs', ct := fun σ' cs' => forL p grd body K xs σ' cs', bk := K.nx, rt := K.rt, ex := K.ex }
def whlN (tst : Sl → Cs → KD → KX → Prop) (body : Sl → Cs → Ends → Prop) (K : Ends) : Nat → Sl → Cs → Prop
  | 0, _, _ => False
  | n + 1, σ, cs => tst σ cs (fun d cs' => (d = .bl true ∧ body σ cs' { nx := fun σ' cs' => whlN tst body K n σ' cs', ct := fun σ' cs' => whlN tst body K n σ' cs', bk := K.nx, rt := K.rt, ex := K.ex }) ∨ (d = .bl false ∧ K.nx σ cs')) fun x cs' => K.ex x σ cs'

@[simp] def wpS : S → Sl → Cs → Ends → Prop
  | .skip, σ, cs, K => K.nx σ cs
  | .seq a b, σ, cs, K => wpS a σ cs { nx := fun σ' cs' => wpS b σ' cs' K, bk := K.bk, ct := K.ct, rt := K.rt, ex := K.ex }
  | .asg p e, σ, cs, K => wpE e σ cs (fun d cs' => match bindP p [d] σ with
    | some σ' => K.nx σ' cs'
    | none => False) fun x cs' => K.ex x σ cs'
  | .exp e, σ, cs, K => wpE e σ cs (fun _ cs' => K.nx σ cs') fun x cs' => K.ex x σ cs'
  | .ret e, σ, cs, K => wpE e σ cs K.rt fun x cs' => K.ex x σ cs'
  | .ite c a b, σ, cs, K => wpE c σ cs (fun d cs' => match d with
    | .bl k => if k = true then wpS a σ cs' K else wpS b σ cs' K
    | _ => False) fun x cs' => K.ex x σ cs'
  | .whl c b, σ, cs, K => ∃ n, whlN (wpE c) (wpS b) K n σ cs
  | .fr p it as b, σ, cs, K => wpEs as σ cs (fun ds c1 => it ds c1 fun items grd => forL p grd (wpS b) K items σ c1) fun x cs' => K.ex x σ cs'
  | .brk, σ, cs, K => K.bk σ cs
  | .cont, σ, cs, K => K.ct σ cs
  | .rse sp as, σ, cs, K => wpEs as σ cs (fun ds cs' => K.ex (sp ds) σ cs') fun x cs' => K.ex x σ cs'
  | .clr i, σ, cs, K => i < σ.length ∧ K.nx (σ.set i none) cs
  | .shut i, σ, cs, K => match getV σ i with
    | some (.ref n) => match cs n with
      | some (.dic ks vs) => K.nx (σ.set i (some (.dic (.non :: ks) vs))) (del cs n)
      | _ => False
    | _ => False
  | .fin a b, σ, cs, K => wpS a σ cs { nx := fun σ' cs' => wpS b σ' cs' { nx := K.nx, rt := fun _ _ => False }, rt := fun _ _ => False, ex := fun x σ' cs' => wpS b σ' cs' { nx := fun σ2 cs2 => K.ex x σ2 cs2, rt := fun _ _ => False } }
  | .tr c a b, σ, cs, K => wpS a σ cs { nx := K.nx, bk := K.bk, ct := K.ct, rt := K.rt, ex := fun x σ' cs' => if c x = true then wpS (b x) σ' cs' K else K.ex x σ' cs' }
  | .frz i, σ, cs, K => match getV σ i with
    | some (.ref n) => match cs n with
      | some (.lst xs) => K.nx (σ.set i (some (.lst xs))) (del cs n)
      | some (.dic ks vs) => K.nx (σ.set i (some (.dic ks vs))) (del cs n)
      | some (.dit l) => K.nx (σ.set i (some (.dic (l.map fun p => .tup (p.1.map kD)) (l.map (·.2))))) (del cs n)
      | _ => False
    | _ => False

/-- a def's start: the arguments, then the names without a value -/
def start (n : Nat) (ds : List D) : Sl := ds.map some ++ List.replicate (n - ds.length) none
def okFn (n : Nat) (body : S) (sp : Spec) : Prop := ∀ ds cs Q X, sp ds cs Q X → wpS body (start n ds) cs { nx := fun _ cs' => Q .non cs', rt := Q, ex := fun x _ cs' => X x cs' }

/-! ### a draw -/
structure DrwOk (ns : List Int) (p c z : Int) : Prop where
  len : ns.length ≤ 63
  big : ∀ n ∈ ns, n.natAbs < 2 ^ (2 ^ 20)
  p0 : 0 ≤ p
  c0 : 0 ≤ c
  z0 : 0 ≤ z
  z1 : z < 2305843009213693951
/-! ### operations -/
def getL : D → Cs → Option (List D)
  | .lst xs, _ => some xs
  | .ref n, cs => match cs n with
    | some (.lst xs) => some xs
    | _ => none
  | _, _ => none
def getQ : D → Cs → Option (List D)
  | .tup xs, _ => some xs
  | d, cs => getL d cs
/-- the place that an index names -/
def ixn (n : Nat) (i : Int) : Option Nat := if 0 ≤ i then (if i < n then some i.toNat else none) else if -(n : Int) ≤ i then some (i + n).toNat else none
def ix (xs : List D) (i : Int) : Option D := (ixn xs.length i).bind fun j => xs[j]?
mutual
def eqD : D → D → Bool
  | .non, .non => true
  | .bl a, .bl b => a == b
  | .bl a, .int j => (if a then 1 else 0) == j
  | .int i, .bl b => i == (if b then 1 else 0)
  | .int i, .int j => i == j
  | .str x, .str y => x == y
  | .lst xs, .lst ys => eqDs xs ys
  | .tup xs, .tup ys => eqDs xs ys
  | _, _ => false
def eqDs : List D → List D → Bool
  | [], [] => true
  | x :: xs, y :: ys => eqD x y && eqDs xs ys
  | _, _ => false
end
def strOk (x : Str) : Bool := x.cps.all (· < 0x110000)
mutual
/-- a tree of plain data, not deeper -/
def pur : Nat → D → Bool
  | _, .non => true
  | _, .bl _ => true
  | _, .int _ => true
  | _, .str x => strOk x
  | k + 1, .lst xs => decide (xs.length ≤ lim) && purs k xs
  | k + 1, .tup xs => decide (xs.length ≤ lim) && purs k xs
  | _, _ => false
def purs : Nat → List D → Bool
  | _, [] => true
  | k, x :: xs => pur k x && purs k xs
end
/-- a cell's list as a tree -/
def deref (cs : Cs) : D → D
  | .ref n => match cs n with
    | some (.lst xs) => .lst xs
    | _ => .ref n
  | d => d
def flat : D → Bool
  | .non => true
  | .bl _ => true
  | .int _ => true
  | .str _ => true
  | _ => false
def inD (x : D) (xs : List D) : Bool := xs.any fun y => eqD y x

def sInt (C : Int → Int → Prop) (f : Int → Int → D) : Spec := fun ds cs Q _ => match ds with
  | [.int i, .int j] => C i j ∧ Q (f i j) cs
  | _ => False
def CTrue (_ _ : Int) : Prop := True
def mulOk (i j : Int) : Prop := (-(2 ^ 64) < i ∧ i < 2 ^ 64) ∨ (-(2 ^ 64) < j ∧ j < 2 ^ 64) ∨ i.natAbs.log2 + j.natAbs.log2 < 1000000
def divOk (_ j : Int) : Prop := 0 < j ∧ j.natAbs.log2 < 9000
def modOk (_ j : Int) : Prop := 0 < j
def powOk (i j : Int) : Prop := 0 ≤ j ∧ j ≤ 1000000 ∧ i.natAbs < 2 ^ 64
/-- +: ints, texts, lists, tuples -/
def sAdd : Spec := fun ds cs Q _ => match ds with
  | [.int i, .int j] => Q (.int (i + j)) cs
  | [.str a, .str b] => a.length + b.length ≤ lim ∧ Q (.str (a ++ b)) cs
  | [.tup a, .tup b] => a ≠ [] ∧ a.length + b.length ≤ lim ∧ Q (.tup (a ++ b)) cs
  | [x, y] => match getL x cs, getL y cs with
    | some a, some b => a.length + b.length ≤ lim ∧ Q (.lst (a ++ b)) cs
    | _, _ => False
  | _ => False
def sSub : Spec := sInt CTrue fun i j => .int (i - j)
def sMul : Spec := sInt mulOk fun i j => .int (i * j)
def sDiv : Spec := sInt divOk fun i j => .int (i / j)
def sMod : Spec := sInt modOk fun i j => .int (i % j)
def sPow : Spec := sInt powOk fun i j => .int (i ^ j.toNat)
def sLt : Spec := sInt CTrue fun i j => .bl (decide (i < j))
def sLe : Spec := sInt CTrue fun i j => .bl (decide (i ≤ j))
def sGt : Spec := sInt CTrue fun i j => .bl (decide (j < i))
def sGe : Spec := sInt CTrue fun i j => .bl (decide (j ≤ i))
def sNeg : Spec := fun ds cs Q _ => match ds with
  | [.int i] => Q (.int (-i)) cs
  | _ => False
def sNot : Spec := fun ds cs Q _ => match ds with
  | [.bl b] => Q (.bl (!b)) cs
  | _ => False
def sEq : Spec := fun ds cs Q _ => match ds with
  | [x, y] => pur 64 (deref cs x) = true ∧ pur 64 (deref cs y) = true ∧ Q (.bl (eqD (deref cs x) (deref cs y))) cs
  | _ => False
def sNe : Spec := fun ds cs Q _ => match ds with
  | [x, y] => pur 64 (deref cs x) = true ∧ pur 64 (deref cs y) = true ∧ Q (.bl (!eqD (deref cs x) (deref cs y))) cs
  | _ => False
def isN : D → Bool
  | .non => true
  | _ => false
def sIsN : Spec := fun ds cs Q _ => match ds with
  | [x, .non] => Q (.bl (isN x)) cs
  | _ => False
def sNotN : Spec := fun ds cs Q _ => match ds with
  | [x, .non] => Q (.bl (!isN x)) cs
  | _ => False
/-- in a list or tuple of flat things -/
def sIn : Spec := fun ds cs Q _ => match ds with
  | [x, y] => match getQ y cs with
    | some xs => flat x = true ∧ xs.all flat = true ∧ Q (.bl (inD x xs)) cs
    | none => False
  | _ => False
def sNotIn : Spec := fun ds cs Q _ => match ds with
  | [x, y] => match getQ y cs with
    | some xs => flat x = true ∧ xs.all flat = true ∧ Q (.bl (!inD x xs)) cs
    | none => False
  | _ => False
def sLen : Spec := fun ds cs Q _ => match ds with
  | [.str s] => s.length ≤ lim ∧ Q (.int s.length) cs
  | [x] => match getQ x cs with
    | some xs => Q (.int xs.length) cs
    | none => False
  | _ => False
def sIx : Spec := fun ds cs Q _ => match ds with
  | [x, .int i] => match getQ x cs with
    | some xs => match ix xs i with
      | some d => Q d cs
      | none => False
    | none => False
  | _ => False
/-- displays -/
def sList : Spec := fun ds cs Q _ => ds.length ≤ lim ∧ Q (.lst ds) cs
def sListM : Spec := fun ds cs Q _ => ds.length ≤ lim ∧ ∀ n, cs n = none → Q (.ref n) (put cs n (.lst ds))
def sTup : Spec := fun ds cs Q _ => ds.length ≤ lim ∧ Q (.tup ds) cs
/-- list(x): a tree; a cell -/
def sListOf : Spec := fun ds cs Q _ => match ds with
  | [x] => match getQ x cs with
    | some xs => Q (.lst xs) cs
    | none => False
  | _ => False
def sListOfM : Spec := fun ds cs Q _ => match ds with
  | [x] => match getQ x cs with
    | some xs => ∀ n, cs n = none → Q (.ref n) (put cs n (.lst xs))
    | none => False
  | _ => False
def sTupOf : Spec := fun ds cs Q _ => match ds with
  | [x] => match getQ x cs with
    | some xs => Q (.tup xs) cs
    | none => False
  | _ => False
def rgD (a b : Int) : List D := (List.range (b - a).toNat).map fun i => D.int (a + (i : Nat))
/-- list(range(a, b)), tuple(range(a, b)) -/
def sListRg : Spec := fun ds cs Q _ => match ds with
  | [.int a, .int b] => -(2 ^ 62) ≤ a ∧ a < 2 ^ 62 ∧ -(2 ^ 62) ≤ b ∧ b < 2 ^ 62 ∧ (b - a).toNat ≤ lim ∧ Q (.lst (rgD a b)) cs
  | _ => False
/-- xs * k: a cell -/
def sRepM : Spec := fun ds cs Q _ => match ds with
  | [x, .int k] => match getL x cs with
    | some xs => -(2 ^ 63) ≤ k ∧ k < 2 ^ 63 ∧ xs.length * k.toNat ≤ lim ∧ ∀ n, cs n = none → Q (.ref n) (put cs n (.lst (List.replicate k.toNat xs).flatten))
    | none => False
  | _ => False
def sIxAt (n d : Nat) : Option Int → Nat
  | none => d
  | some i => if i < 0 then (i + n).toNat else min i.toNat n
/-- a cell is changed -/
def sAppend : Spec := fun ds cs Q _ => match ds with
  | [.ref n, y] => match cs n with
    | some (.lst xs) => xs.length < lim ∧ Q .non (put cs n (.lst (xs ++ [y])))
    | _ => False
  | _ => False
def sInsert : Spec := fun ds cs Q _ => match ds with
  | [.ref n, .int i, y] => match cs n with
    | some (.lst xs) => xs.length < lim ∧ 0 ≤ i ∧ i < 2 ^ 63 ∧ Q .non (put cs n (.lst (xs.take i.toNat ++ [y] ++ xs.drop i.toNat)))
    | _ => False
  | _ => False
/-- value, list, place -/
def sSetIx : Spec := fun ds cs Q _ => match ds with
  | [v, .ref n, .int i] => match cs n with
    | some (.lst xs) => match ixn xs.length i with
      | some j => Q .non (put cs n (.lst (xs.set j v)))
      | none => False
    | _ => False
  | _ => False
def chkL (d : D) (cs : Cs) : Prop := match getL d cs with
  | some _ => True
  | none => False
/-- the script, cut to 63 items -/
def sCutScr : Spec := fun ds cs Q _ => match ds with
  | [.scr] => ∀ ns : List Int, ns.length ≤ 63 → (∀ n ∈ ns, n.natAbs < 2 ^ (2 ^ 20)) → Q (.lst (ns.map D.int)) cs
  | _ => False
def sMax2 : Spec := sInt CTrue fun i j => .int (if j > i then j else i)
def sMin2 : Spec := sInt CTrue fun i j => .int (if j < i then j else i)
def asBools : List D → Option (List Bool)
  | [] => some []
  | .bl b :: r => (asBools r).map (b :: ·)
  | _ => none
def asInts : List D → Option (List Int)
  | [] => some []
  | .int b :: r => (asInts r).map (b :: ·)
  | _ => none
def sAll : Spec := fun ds cs Q _ => match ds with
  | [x] => match getL x cs with
    | some xs => match asBools xs with
      | some bs => Q (.bl (bs.all id)) cs
      | none => False
    | none => False
  | _ => False
/-- isinstance: the kinds -/
inductive Ty where
  | int | bool | str | list | tuple
def isTy (cs : Cs) : D → Ty → Option Bool
  | .non, _ => some false
  | .bl _, .int => some true
  | .bl _, .bool => some true
  | .bl _, _ => some false
  | .int _, .int => some true
  | .int _, _ => some false
  | .str _, .str => some true
  | .str _, _ => some false
  | .tup _, .tuple => some true
  | .tup _, _ => some false
  | .lst _, .list => some true
  | .lst _, _ => some false
  | .dic _ _, _ => none
  | .scr, _ => none
  | .clo _ _ _, _ => none
  | .ref n, t => match cs n, t with
    | some (.lst _), .list => some true
    | some (.lst _), _ => some false
    | _, _ => none
def sIsi (t : Ty) : Spec := fun ds cs Q _ => match ds with
  | [x] => match isTy cs x t with
    | some b => Q (.bl b) cs
    | none => False
  | _ => False
/-- isinstance(x, (s, t)) -/
def sIsi2 (s t : Ty) : Spec := fun ds cs Q _ => match ds with
  | [x] => match isTy cs x s, isTy cs x t with
    | some a, some b => Q (.bl (a || b)) cs
    | _, _ => False
  | _ => False

/-! ### what is walked -/
def grdL (d : D) (cs : Cs) : Cs → Prop := fun cs' => match d with
  | .ref n => cs' n = cs n
  | _ => True
def iSeq : ISpec := fun ds cs R => match ds with
  | [x] => match getQ x cs with
    | some xs => R xs (grdL x cs)
    | none => False
  | _ => False
def iRng1 : ISpec := fun ds _ R => match ds with
  | [.int b] => -(2 ^ 62) ≤ b ∧ b < 2 ^ 62 ∧ R (rgD 0 b) (fun _ => True)
  | _ => False
def zipD : List D → List D → List D
  | x :: r, y :: s => .tup [x, y] :: zipD r s
  | _, _ => []
def iZip : ISpec := fun ds cs R => match ds with
  | [x, y] => match x, y with
    | .tup xs, .tup ys => R (zipD xs ys) (fun _ => True)
    | x, y => match getL x cs, getL y cs with
      | some xs, some ys => R (zipD xs ys) (fun c => grdL x cs c ∧ grdL y cs c)
      | _, _ => False
  | _ => False
end G

/-! GRel: how trees and cells lie in the abstract heap. -/
namespace G
open PySem L2
open Evl (Ex)

/-- a lambda as it lies: its code object at c, its defaults dV -/
def LamO (f c : Addr) (t : LamT) (cl : List (Str × Addr)) (dV : Value) : HO := .ext fun h => ∃ pm ctv : Value, h.get? f = some { cls := .type "function", data := .func { PySem.W.kla_fn "<lambda>" t.q t.params t.body t.scope cl pm (.ref c) ctv with defaults := dV } }
/-- a world: the known part of the heap, the cells' addresses, the tables of code objects -/
structure Wd where
  B : Hp
  r : Nat → Option Addr
  k : Nat
structure Wd.le (a b : Wd) : Prop where
  B : Ex a.B b.B
  r : ∀ n x, a.r n = some x → b.r n = some x
theorem Wd.le.refl (a : Wd) : a.le a := ⟨Ex.refl _, fun _ _ h => h⟩
theorem Wd.le.trans {a b c : Wd} (h : a.le b) (k : b.le c) : a.le c := ⟨h.B.trans k.B, fun n x e => k.r n x (h.r n x e)⟩

section
variable (K : PySem.W.Frag)
mutual
def Rp (wd : Wd) : D → V → Prop
  | .non, v => v = .non
  | .bl b, v => v = .bl b
  | .int i, v => v = .int i
  | .str s, v => v = .str s
  | .tup ds, v => ∃ a xs, v = .ref a ∧ wd.B a = some (.tup xs) ∧ RpL wd ds xs
  | .lst ds, v => ∃ a xs, v = .ref a ∧ wd.B a = some (.lst xs) ∧ RpL wd ds xs
  | .dic ks vs, v => ∃ a o, v = .ref a ∧ ((∃ kvs : List (L2.Key × V), wd.B a = some (.frz o (.dK kvs)) ∧ ks = kvs.map (fun p => kD p.1) ∧ RpL wd vs (kvs.map (·.2))) ∨ (∃ kvs : List (List L2.Key × V), wd.B a = some (.frz o (.dT kvs)) ∧ ks = kvs.map (fun p => D.tup (p.1.map kD)) ∧ RpL wd vs (kvs.map (·.2))) ∨ ∃ kvs : List (L2.Key × V), wd.B a = some (.frz o (.dK kvs)) ∧ ks = .non :: kvs.map (fun p => kD p.1) ∧ RpL wd vs (kvs.map (·.2)))
  | .ref n, v => ∃ a, wd.r n = some a ∧ v = .ref a
  | .scr, v => ∃ (a : Addr) (ns : List Int), v = .ref a ∧ SqL K wd.B a (ns.map V.int) ∧ ns.length ≤ 63 ∧ ∀ n ∈ ns, n.natAbs < 2 ^ (2 ^ 20)
  | .clo _ t cl, v => ∃ (f c : Addr) (dV : Value), v = .ref f ∧ wd.B f = some (LamO f c t (L2.cloFrom cl t.scope.names []) dV) ∧ wd.B c = some (LamX.CodeO c t.q) ∧ ((t.dfl = [] ∧ dV = .none) ∨ (t.dfl ≠ [] ∧ ∃ p, dV = .ref p ∧ wd.B p = some (.tup (t.dfl.map V.int))))
def RpL (wd : Wd) : List D → List V → Prop
  | [], vs => vs = []
  | d :: ds, vs => ∃ v r, vs = v :: r ∧ Rp wd d v ∧ RpL wd ds r
end
variable {K} {wd wd' : Wd}
mutual
theorem Rp.mono (h : wd.le wd') : ∀ (d : D) (v : V), Rp K wd d v → Rp K wd' d v
  | .non, _, q => q
  | .bl _, _, q => q
  | .int _, _, q => q
  | .str _, _, q => q
  | .tup ds, v, q => by
    obtain ⟨a, xs, e, s, r⟩ := q
    exact ⟨a, xs, e, h.B a _ s, RpL.mono h ds xs r⟩
  | .lst ds, v, q => by
    obtain ⟨a, xs, e, s, r⟩ := q
    exact ⟨a, xs, e, h.B a _ s, RpL.mono h ds xs r⟩
  | .dic ks vs, v, q => by
    obtain ⟨a, o, e, q⟩ := q
    rcases q with ⟨kvs, h1, h2, h3⟩ | ⟨kvs, h1, h2, h3⟩ | ⟨kvs, h1, h2, h3⟩
    · exact ⟨a, o, e, .inl ⟨kvs, h.B a _ h1, h2, RpL.mono h vs _ h3⟩⟩
    · exact ⟨a, o, e, .inr (.inl ⟨kvs, h.B a _ h1, h2, RpL.mono h vs _ h3⟩)⟩
    · exact ⟨a, o, e, .inr (.inr ⟨kvs, h.B a _ h1, h2, RpL.mono h vs _ h3⟩)⟩
  | .scr, v, q => by
    obtain ⟨a, ns, e, s, r⟩ := q
    exact ⟨a, ns, e, Evl.ex_l h.B s, r⟩
  | .ref n, v, q => by
    obtain ⟨a, e, z⟩ := q
    exact ⟨a, h.r n a e, z⟩
  | .clo _ _ _, v, q => by
    obtain ⟨f, c, dV, e, h1, h2, h3⟩ := q
    exact ⟨f, c, dV, e, h.B _ _ h1, h.B _ _ h2, h3.imp id fun ⟨n, p, e, z⟩ => ⟨n, p, e, h.B _ _ z⟩⟩
theorem RpL.mono (h : wd.le wd') : ∀ (ds : List D) (vs : List V), RpL K wd ds vs → RpL K wd' ds vs
  | [], _, q => q
  | d :: ds, vs, q => by
    obtain ⟨v, r, e, a, b⟩ := q
    exact ⟨v, r, e, Rp.mono h d v a, RpL.mono h ds r b⟩
end
theorem RpL.length : ∀ {ds : List D} {vs : List V}, RpL K wd ds vs → vs.length = ds.length
  | [], vs, q => by
    have e : vs = [] := q
    rw [e]
    rfl
  | d :: ds, vs, q => by
    obtain ⟨v, r, e, a, b⟩ := q
    rw [e, List.length_cons, List.length_cons, RpL.length b]
theorem RpL.get : ∀ {ds : List D} {vs : List V} {i : Nat} {d : D}, RpL K wd ds vs → ds[i]? = some d → ∃ v, vs[i]? = some v ∧ Rp K wd d v
  | [], _, _, _, _, e => by simp at e
  | d :: ds, vs, 0, d', q, e => by
    obtain ⟨v, r, ev, a, b⟩ := q
    simp at e
    subst e ev
    exact ⟨v, rfl, a⟩
  | d :: ds, vs, i + 1, d', q, e => by
    obtain ⟨v, r, ev, a, b⟩ := q
    subst ev
    obtain ⟨v', h1, h2⟩ := RpL.get (i := i) (d := d') b (by simpa using e)
    exact ⟨v', by simpa using h1, h2⟩
theorem RpL.append : ∀ {ds es : List D} {vs ws : List V}, RpL K wd ds vs → RpL K wd es ws → RpL K wd (ds ++ es) (vs ++ ws)
  | [], es, vs, ws, h, k => by
    have e : vs = [] := h
    subst e
    exact k
  | d :: ds, es, vs, ws, h, k => by
    obtain ⟨v, r, e, a, b⟩ := h
    subst e
    exact ⟨v, r ++ ws, rfl, a, RpL.append b k⟩
theorem RpL.set : ∀ {ds : List D} {vs : List V} {i : Nat} {d : D} {v : V}, RpL K wd ds vs → Rp K wd d v → RpL K wd (ds.set i d) (vs.set i v)
  | [], vs, _, _, _, h, _ => by
    have e : vs = [] := h
    subst e
    exact rfl
  | d :: ds, vs, 0, d', v', h, k => by
    obtain ⟨v, r, e, a, b⟩ := h
    subst e
    exact ⟨v', r, rfl, k, b⟩
  | d :: ds, vs, i + 1, d', v', h, k => by
    obtain ⟨v, r, e, a, b⟩ := h
    subst e
    exact ⟨v, r.set i v', rfl, a, RpL.set b k⟩
theorem RpL.take : ∀ {ds : List D} {vs : List V} (n : Nat), RpL K wd ds vs → RpL K wd (ds.take n) (vs.take n)
  | [], vs, n, h => by
    have e : vs = [] := h
    subst e
    rw [List.take_nil, List.take_nil]
    exact rfl
  | d :: ds, vs, 0, h => rfl
  | d :: ds, vs, n + 1, h => by
    obtain ⟨v, r, e, a, b⟩ := h
    subst e
    exact ⟨v, r.take n, rfl, a, RpL.take n b⟩
theorem RpL.drop : ∀ {ds : List D} {vs : List V} (n : Nat), RpL K wd ds vs → RpL K wd (ds.drop n) (vs.drop n)
  | [], vs, n, h => by
    have e : vs = [] := h
    subst e
    rw [List.drop_nil, List.drop_nil]
    exact rfl
  | d :: ds, vs, 0, h => h
  | d :: ds, vs, n + 1, h => by
    obtain ⟨v, r, e, a, b⟩ := h
    subst e
    exact RpL.drop n b
theorem RpL.one {d : D} {vs : List V} (h : RpL K wd [d] vs) : ∃ v, vs = [v] ∧ Rp K wd d v := by
  obtain ⟨v, r, e, a, b⟩ := h
  have e2 : r = [] := b
  subst e2
  exact ⟨v, e, a⟩
theorem RpL.two {d e : D} {vs : List V} (h : RpL K wd [d, e] vs) : ∃ v w, vs = [v, w] ∧ Rp K wd d v ∧ Rp K wd e w := by
  obtain ⟨v, r, e1, a, b⟩ := h
  obtain ⟨w, e2, c⟩ := RpL.one b
  subst e2
  exact ⟨v, w, e1, a, c⟩
theorem RpL.three {d e f : D} {vs : List V} (h : RpL K wd [d, e, f] vs) : ∃ v w u, vs = [v, w, u] ∧ Rp K wd d v ∧ Rp K wd e w ∧ Rp K wd f u := by
  obtain ⟨v, r, e1, a, b⟩ := h
  obtain ⟨w, u, e2, c, d⟩ := RpL.two b
  subst e2
  exact ⟨v, w, u, e1, a, c, d⟩
end

/-- a cell's content -/
def RpO (K : PySem.W.Frag) (wd : Wd) : Ob → HO → Prop
  | .lst ds, o => ∃ xs, o = .lst xs ∧ RpL K wd ds xs
  | .dic ks vs, o => ∃ kvs : List (L2.Key × V), o = .dK kvs ∧ ks = kvs.map (fun p => kD p.1) ∧ RpL K wd vs (kvs.map (·.2))
  | .ins C fs, o => ∃ (dx : Addr) (gs : List (Str × V)), o = .ins C dx gs ∧ gs.map (·.1) = fs.map (·.1) ∧ RpL K wd (fs.map (·.2)) (gs.map (·.2))
  | .set w m S n, o => ∃ a, wd.r m = some a ∧ o = SetO w a S n
  | .dit l, o => ∃ kvs : List (List L2.Key × V), o = .dT kvs ∧ l.map (·.1) = kvs.map (·.1) ∧ RpL K wd (l.map (·.2)) (kvs.map (·.2))
  | .drw, o => ∃ (ns : List Int) (p c z : Int) (a : Addr), o = .lst [.ref a, .int p, .int c, .int z] ∧ wd.B a = some (.lst (ns.map V.int)) ∧ DrwOk ns p c z
theorem RpO.mono {K : PySem.W.Frag} {wd wd' : Wd} (h : wd.le wd') : ∀ {o : Ob} {u : HO}, RpO K wd o u → RpO K wd' o u
  | .lst ds, _, ⟨xs, e, r⟩ => ⟨xs, e, RpL.mono h ds xs r⟩
  | .dic ks vs, _, ⟨kvs, e, k, r⟩ => ⟨kvs, e, k, RpL.mono h vs _ r⟩
  | .ins _ _, _, ⟨dx, gs, e, k, r⟩ => ⟨dx, gs, e, k, RpL.mono h _ _ r⟩
  | .set _ m _ _, _, ⟨a, e, z⟩ => ⟨a, h.r m a e, z⟩
  | .dit l, _, ⟨kvs, e, k, r⟩ => ⟨kvs, e, k, RpL.mono h _ _ r⟩
  | .drw, _, ⟨ns, p, c, z, a, e, s, r⟩ => ⟨ns, p, c, z, a, e, h.B a _ s, r⟩
theorem RpO.notbl {K : PySem.W.Frag} {wd : Wd} : ∀ {o : Ob} {u : HO}, RpO K wd o u → ∀ q, u ≠ .tbl q
  | .lst ds, _, ⟨xs, e, r⟩, q => by rw [e]; intro z; cases z
  | .dic _ _, _, ⟨kvs, e, _⟩, q => by rw [e]; intro z; cases z
  | .ins _ _, _, ⟨dx, gs, e, _⟩, q => by rw [e]; intro z; cases z
  | .set _ _ _ _, _, ⟨a, _, e⟩, q => by rw [e]; intro z; cases z
  | .dit _, _, ⟨kvs, e, _⟩, q => by rw [e]; intro z; cases z
  | .drw, _, ⟨ns, p, c, z, a, e, s, r⟩, q => by rw [e]; intro z; cases z
/-- the table at P: each code object that it tells is known and bears the name q -/
def TabB' (B H : Hp) (P : Addr) (q : Str) : Prop := ∃ ps : Array Value, H P = some (.tbl ps) ∧ TriplesOk ps.toList ∧ ∀ (pos : Pos) (cv : Value), codeAmong pos ps.toList = some cv → ∃ c, cv = .ref c ∧ B c = some (LamX.CodeO c q)
/-- no table of code objects, no tuple -/
def NT (o : HO) : Prop := (∀ q, o ≠ .tbl q) ∧ ∀ xs, o ≠ .tup xs
theorem NT.lst {xs : List V} : NT (.lst xs) := ⟨fun _ z => (by cases z), fun _ z => (by cases z)⟩
/-- the state: H holds the world's known part, an untold part F that stays, the cells -/
structure Rl (K : PySem.W.Frag) (wd : Wd) (F : Hp) (cs : Cs) (H : Hp) : Prop where
  b : Ex wd.B H
  f : Ex F H
  bf : ∀ a o, wd.B a = some o → F a = none
  inj : ∀ n m a, wd.r n = some a → wd.r m = some a → n = m
  cell : ∀ n o, cs n = some o → ∃ a u, wd.r n = some a ∧ wd.B a = none ∧ F a = none ∧ H a = some u ∧ RpO K wd o u
  ran : ∀ n a, wd.r n = some a → ∃ o, H a = some o ∧ ∀ q, o ≠ .tbl q
  top : ∀ n, wd.k ≤ n → wd.r n = none
  rf : ∀ n a, wd.r n = some a → F a = none
  fe : ∀ a o, F a = some o → NT o
  tab : ∀ p ∈ tabsOf K, TabB' wd.B H p.1 p.2
  bt : ∀ a q, wd.B a ≠ some (.tbl q)
section
variable {K : PySem.W.Frag} {wd : Wd} {F H : Hp} {cs : Cs}
/-- less is known of the cells -/
theorem Rl.less {cs' : Cs} (R : Rl K wd F cs H) (h : ∀ n o, cs' n = some o → cs n = some o) : Rl K wd F cs' H :=
  ⟨R.b, R.f, R.bf, R.inj, fun n o e => R.cell n o (h n o e), R.ran, R.top, R.rf, R.fe, R.tab, R.bt⟩
/-- a table is no known object -/
theorem Rl.notbl (R : Rl K wd F cs H) {P : Addr} {ps : Array Value} (h : H P = some (.tbl ps)) {a : Addr} {o : HO} (e : H a = some o) (n : ∀ q, o ≠ .tbl q) : a ≠ P := fun z => by
  rw [z, h] at e
  exact n ps (Option.some.inj e).symm
theorem Rl.tabNew (R : Rl K wd F cs H) {p : Addr} (hp : H p = none) {o : HO} {B' : Hp} (b : Ex wd.B B') : ∀ q ∈ tabsOf K, TabB' B' (upd H p o) q.1 q.2 := fun q hq => by
  obtain ⟨ps, h1, h2, h3⟩ := R.tab q hq
  refine ⟨ps, by rw [upd_ne (ne_of_none h1 hp)]; exact h1, h2, fun pos cv e => ?_⟩
  obtain ⟨c, e1, e2⟩ := h3 pos cv e
  exact ⟨c, e1, b _ _ e2⟩
theorem Rl.bnone (R : Rl K wd F cs H) {p : Addr} (h : H p = none) : wd.B p = none := Evl.fresh_back R.b h
/-- a new known object -/
theorem Rl.btNew (R : Rl K wd F cs H) {p : Addr} {o : HO} (ho : ∀ q, o ≠ .tbl q) : ∀ a q, upd wd.B p o a ≠ some (.tbl q) := fun a q e => by
  by_cases h : a = p
  · subst h
    rw [upd_same] at e
    exact ho q (Option.some.inj e)
  · rw [upd_ne h] at e
    exact R.bt a q e
theorem Rl.new (R : Rl K wd F cs H) {p : Addr} (hp : H p = none) (o : HO) (ho : ∀ q, o ≠ .tbl q := by (intro _ z; cases z)) : Rl K ⟨upd wd.B p o, wd.r, wd.k⟩ F cs (upd H p o) ∧ wd.le ⟨upd wd.B p o, wd.r, wd.k⟩ := by
  have bn := R.bnone hp
  have fn := Evl.fresh_back R.f hp
  have le : wd.le ⟨upd wd.B p o, wd.r, wd.k⟩ := ⟨Ex.new bn, fun _ _ h => h⟩
  refine ⟨⟨fun a u e => ?_, fun a u e => ?_, fun a u e => ?_, R.inj, fun n u e => ?_, fun n a e => ?_, R.top, R.rf, R.fe, R.tabNew hp le.B, R.btNew ho⟩, le⟩
  · have e : upd wd.B p o a = some u := e
    by_cases h : a = p
    · subst h
      rw [upd_same] at e ⊢
      exact e
    · rw [upd_ne h] at e ⊢
      exact R.b a u e
  · rw [upd_ne (ne_of_none e fn)]
    exact R.f a u e
  · have e : upd wd.B p o a = some u := e
    by_cases h : a = p
    · subst h
      exact fn
    · rw [upd_ne h] at e
      exact R.bf a u e
  · obtain ⟨a, v, e1, e2, e3, e4, e5⟩ := R.cell n u e
    have ne : a ≠ p := ne_of_none e4 hp
    exact ⟨a, v, e1, (upd_ne ne).trans e2, e3, (upd_ne ne).trans e4, e5.mono le⟩
  · obtain ⟨u, hu, hn⟩ := R.ran n a e
    exact ⟨u, by rw [upd_ne (ne_of_none hu hp)]; exact hu, hn⟩
/-- a new cell: its number is free -/
theorem Rl.cellNew (R : Rl K wd F cs H) {p : Addr} (hp : H p = none) {o : Ob} {u : HO} (h : RpO K wd o u) : ∃ n wd', cs n = none ∧ wd.le wd' ∧ wd'.r n = some p ∧ Rl K wd' F (put cs n o) (upd H p u) := by
  have bn := R.bnone hp
  have fn := Evl.fresh_back R.f hp
  have rk : wd.r wd.k = none := R.top wd.k (Nat.le_refl _)
  have nr : ∀ m b, wd.r m = some b → b ≠ p := fun m b e => by
    obtain ⟨w, hw, _⟩ := R.ran m b e
    exact ne_of_none hw hp
  have le : wd.le ⟨wd.B, fun m => if m = wd.k then some p else wd.r m, wd.k + 1⟩ := ⟨Ex.refl _, fun m b e => by
    show (if m = wd.k then some p else wd.r m) = some b
    by_cases hm : m = wd.k
    · rw [hm, rk] at e
      cases e
    · rw [if_neg hm]
      exact e⟩
  have ck : cs wd.k = none := by
    cases q : cs wd.k with
    | none => rfl
    | some o =>
      obtain ⟨a, v, e1, _⟩ := R.cell _ _ q
      rw [rk] at e1
      cases e1
  refine ⟨wd.k, ⟨wd.B, fun m => if m = wd.k then some p else wd.r m, wd.k + 1⟩, ck, le, if_pos rfl, fun b w e => ?_, fun b w e => ?_, R.bf, fun n m a e1 e2 => ?_, fun m w e => ?_, fun m b e => ?_, fun m hm => ?_, fun m b e => ?_, R.fe, R.tabNew hp le.B, R.bt⟩
  · rw [upd_ne (ne_of_none e bn)]
    exact R.b b w e
  · rw [upd_ne (ne_of_none e fn)]
    exact R.f b w e
  · have e1 : (if n = wd.k then some p else wd.r n) = some a := e1
    have e2 : (if m = wd.k then some p else wd.r m) = some a := e2
    by_cases hn : n = wd.k
    · by_cases hm : m = wd.k
      · rw [hn, hm]
      · rw [if_pos hn] at e1
        rw [if_neg hm] at e2
        exact absurd (Option.some.inj e1).symm (nr m a e2)
    · by_cases hm : m = wd.k
      · rw [if_pos hm] at e2
        rw [if_neg hn] at e1
        exact absurd (Option.some.inj e2).symm (nr n a e1)
      · rw [if_neg hn] at e1
        rw [if_neg hm] at e2
        exact R.inj n m a e1 e2
  · by_cases hm : m = wd.k
    · subst hm
      have ew : o = w := by
        unfold put at e
        rw [if_pos rfl] at e
        exact Option.some.inj e
      subst ew
      exact ⟨p, u, if_pos rfl, bn, fn, upd_same, h.mono le⟩
    · unfold put at e
      rw [if_neg hm] at e
      obtain ⟨b, x, f1, f2, f3, f4, f5⟩ := R.cell m w e
      exact ⟨b, x, (if_neg hm).trans f1, f2, f3, (upd_ne (nr m b f1)).trans f4, f5.mono le⟩
  · have e : (if m = wd.k then some p else wd.r m) = some b := e
    by_cases hm : m = wd.k
    · rw [if_pos hm] at e
      have eb := Option.some.inj e
      subst eb
      exact ⟨u, upd_same, h.notbl⟩
    · rw [if_neg hm] at e
      obtain ⟨w, hw, hn⟩ := R.ran m b e
      exact ⟨w, by rw [upd_ne (nr m b e)]; exact hw, hn⟩
  · have hm : wd.k + 1 ≤ m := hm
    show (if m = wd.k then some p else wd.r m) = none
    rw [if_neg (by omega)]
    exact R.top m (by omega)
  · have e : (if m = wd.k then some p else wd.r m) = some b := e
    by_cases hm : m = wd.k
    · rw [if_pos hm] at e
      have eb := Option.some.inj e
      subst eb
      exact fn
    · rw [if_neg hm] at e
      exact R.rf m b e
/-- a cell is written -/
theorem Rl.write (R : Rl K wd F cs H) {n : Nat} {a : Addr} {o' : Ob} {u : HO} (hn : ∃ o, cs n = some o) (ha : wd.r n = some a) (h : RpO K wd o' u) : Rl K wd F (put cs n o') (upd H a u) := by
  obtain ⟨o, hn⟩ := hn
  obtain ⟨a', v, e1, e2, e3, e4, e5⟩ := R.cell n o hn
  have ea : a' = a := Option.some.inj (e1.symm.trans ha)
  subst ea
  refine ⟨fun b w e => ?_, fun b w e => ?_, R.bf, R.inj, fun m w e => ?_, fun m b e => ?_, R.top, R.rf, R.fe, fun p hp => ?_, R.bt⟩
  · rw [upd_ne (ne_of_none e e2)]
    exact R.b b w e
  · rw [upd_ne (ne_of_none e e3)]
    exact R.f b w e
  · by_cases hm : m = n
    · subst hm
      have ew : o' = w := by
        unfold put at e
        rw [if_pos rfl] at e
        exact Option.some.inj e
      subst ew
      exact ⟨a', u, e1, e2, e3, upd_same, h⟩
    · unfold put at e
      rw [if_neg hm] at e
      obtain ⟨b, x, f1, f2, f3, f4, f5⟩ := R.cell m w e
      have ne : b ≠ a' := fun z => hm (R.inj m n a' (by rw [← z]; exact f1) e1)
      exact ⟨b, x, f1, f2, f3, by rw [upd_ne ne]; exact f4, f5⟩
  · by_cases h2 : b = a'
    · subst h2
      exact ⟨u, upd_same, h.notbl⟩
    · obtain ⟨w, hw, hn⟩ := R.ran m b e
      exact ⟨w, by rw [upd_ne h2]; exact hw, hn⟩
  · obtain ⟨ps, h1, h2, h3⟩ := R.tab p hp
    have ne : a' ≠ p.1 := R.notbl h1 e4 (e5.notbl)
    exact ⟨ps, by rw [upd_ne (Ne.symm ne)]; exact h1, h2, h3⟩
/-- a cell's list becomes known: it is written no more -/
theorem Rl.freeze (R : Rl K wd F cs H) {n : Nat} {ds : List D} (hn : cs n = some (.lst ds)) : ∃ wd' a, wd.le wd' ∧ wd.r n = some a ∧ Rl K wd' F (del cs n) H ∧ Rp K wd' (.lst ds) (.ref a) := by
  obtain ⟨a, u, e1, e2, e3, e4, xs, e5, e6⟩ := R.cell n _ hn
  subst e5
  have le : wd.le ⟨upd wd.B a (.lst xs), wd.r, wd.k⟩ := ⟨Ex.new e2, fun _ _ h => h⟩
  refine ⟨⟨upd wd.B a (.lst xs), wd.r, wd.k⟩, a, le, e1, ⟨fun b w e => ?_, R.f, fun b w e => ?_, R.inj, fun m w e => ?_, R.ran, R.top, R.rf, R.fe, fun p hp => ?_, R.btNew (fun q z => by cases z)⟩, ⟨a, xs, rfl, upd_same, RpL.mono le _ _ e6⟩⟩
  · have e : upd wd.B a (.lst xs) b = some w := e
    by_cases h : b = a
    · subst h
      rw [upd_same] at e
      rw [← e]
      exact e4
    · rw [upd_ne h] at e
      exact R.b b w e
  · have e : upd wd.B a (.lst xs) b = some w := e
    by_cases h : b = a
    · subst h
      exact e3
    · rw [upd_ne h] at e
      exact R.bf b w e
  · unfold del at e
    by_cases hm : m = n
    · rw [if_pos hm] at e
      cases e
    · rw [if_neg hm] at e
      obtain ⟨b, x, f1, f2, f3, f4, f5⟩ := R.cell m w e
      have ne : b ≠ a := fun z => hm (R.inj m n a (by rw [← z]; exact f1) e1)
      exact ⟨b, x, f1, (upd_ne ne).trans f2, f3, f4, f5.mono le⟩
  · obtain ⟨ps, h1, h2, h3⟩ := R.tab p hp
    exact ⟨ps, h1, h2, fun pos cv e => let ⟨c, e1, e2⟩ := h3 pos cv e; ⟨c, e1, le.B _ _ e2⟩⟩
/-- the list of a tree or a cell -/
theorem Rl.getL (R : Rl K wd F cs H) {d : D} {v : V} {xs : List D} (r : Rp K wd d v) (h : getL d cs = some xs) : ∃ a vs, v = .ref a ∧ H a = some (.lst vs) ∧ RpL K wd xs vs := by
  cases d with
  | lst ds =>
    obtain ⟨a, vs, e, s, q⟩ := r
    have e2 : ds = xs := Option.some.inj h
    subst e2
    exact ⟨a, vs, e, R.b a _ s, q⟩
  | ref n =>
    obtain ⟨a, e1, e2⟩ := r
    have h : (match cs n with
      | some (.lst xs) => some xs
      | _ => none) = some xs := h
    cases hc : cs n with
    | none =>
      rw [hc] at h
      cases h
    | some o =>
      rw [hc] at h
      cases o with
      | lst ds =>
        have e3 : ds = xs := Option.some.inj h
        subst e3
        obtain ⟨a', u, f1, f2, f3, f4, ws, f5, f6⟩ := R.cell n _ hc
        have ea : a' = a := Option.some.inj (f1.symm.trans e1)
        subst ea f5
        exact ⟨a', ws, e2, f4, f6⟩
      | dic _ _ => cases h
      | ins _ _ => cases h
      | drw => cases h
      | set _ _ _ _ => cases h
      | dit _ => cases h
  | non => cases h
  | bl _ => cases h
  | int _ => cases h
  | str _ => cases h
  | tup _ => cases h
  | dic _ _ => cases h
  | scr => cases h
  | clo _ _ _ => cases h
theorem Rl.getQ (R : Rl K wd F cs H) {d : D} {v : V} {xs : List D} (r : Rp K wd d v) (h : getQ d cs = some xs) : ∃ a vs, v = .ref a ∧ (H a = some (.lst vs) ∨ SqT K H a vs) ∧ RpL K wd xs vs := by
  cases d with
  | tup ds =>
    obtain ⟨a, vs, e, s, q⟩ := r
    have e2 : ds = xs := Option.some.inj h
    subst e2
    exact ⟨a, vs, e, .inr (SqT.of (R.b a _ s)), q⟩
  | lst ds =>
    obtain ⟨a, vs, e, s, q⟩ := R.getL (d := .lst ds) r h
    exact ⟨a, vs, e, .inl s, q⟩
  | ref n =>
    obtain ⟨a, vs, e, s, q⟩ := R.getL (d := .ref n) r h
    exact ⟨a, vs, e, .inl s, q⟩
  | non => cases h
  | bl _ => cases h
  | int _ => cases h
  | str _ => cases h
  | dic _ _ => cases h
  | scr => cases h
  | clo _ _ _ => cases h
end
end G

/-! GJud: the judgements: a piece of Python and its core term. -/
namespace G
open PySem PySem.Spec L2
open Evl (Ex)

/-- slots -/
structure RS (K : PySem.W.Frag) (wd : Wd) (τ : Sl) (σ : St) : Prop where
  len : τ.length = σ.length
  at_ : ∀ i d, getV τ i = some d → ∃ v, σ[i]? = some (some v) ∧ Rp K wd d v
theorem getV_eq : ∀ (τ : Sl) (i : Nat), getV τ i = (τ[i]?).join
  | [], i => by simp [getV]
  | x :: r, 0 => by simp [getV]
  | x :: r, i + 1 => by
    show getV r i = _
    rw [getV_eq r i]
    simp
theorem RS.mono {K : PySem.W.Frag} {wd wd' : Wd} {τ : Sl} {σ : St} (h : RS K wd τ σ) (l : wd.le wd') : RS K wd' τ σ :=
  ⟨h.len, fun i d e => let ⟨v, a, b⟩ := h.at_ i d e; ⟨v, a, b.mono l⟩⟩
theorem RS.set {K : PySem.W.Frag} {wd : Wd} {τ : Sl} {σ : St} (h : RS K wd τ σ) {d : D} {v : V} (i : Nat) (r : Rp K wd d v) : RS K wd (τ.set i (some d)) (σ.set i (some v)) := by
  refine ⟨by simp [h.len], fun j e q => ?_⟩
  rw [getV_eq] at q
  by_cases hj : j = i
  · subst hj
    by_cases hl : j < τ.length
    · rw [List.getElem?_set_self hl] at q
      have : d = e := Option.some.inj q
      subst this
      exact ⟨v, List.getElem?_set_self (by rw [← h.len]; exact hl), r⟩
    · rw [List.getElem?_eq_none (by simp; omega)] at q
      cases q
  · rw [List.getElem?_set_ne (Ne.symm hj), ← getV_eq] at q
    rw [List.getElem?_set_ne (Ne.symm hj)]
    exact h.at_ j e q
/-- the same tree, told otherwise -/
theorem RS.swap {K : PySem.W.Frag} {wd : Wd} {τ : Sl} {σ : St} (h : RS K wd τ σ) {d : D} {v : V} (i : Nat) (e : σ[i]? = some (some v)) (r : Rp K wd d v) : RS K wd (τ.set i (some d)) σ := by
  have q := h.set i r
  have z : σ.set i (some v) = σ := by
    obtain ⟨hl, hv⟩ := List.getElem?_eq_some_iff.mp e
    apply List.ext_getElem?
    intro j
    by_cases hj : j = i
    · subst hj
      rw [List.getElem?_set_self hl, e]
    · rw [List.getElem?_set_ne (Ne.symm hj)]
  rw [z] at q
  exact q
/-- forgetting -/
theorem RS.drop {K : PySem.W.Frag} {wd : Wd} {τ τ' : Sl} {σ : St} (h : RS K wd τ σ) (hl : τ'.length = τ.length) (w : ∀ i d, getV τ' i = some d → getV τ i = some d) : RS K wd τ' σ :=
  ⟨hl.trans h.len, fun i d e => h.at_ i d (w i d e)⟩

/-- an error as it lies -/
def RpX (K : PySem.W.Frag) (mg : Str → Option Value) (wd : Wd) (x : Er) (cls : Value) (dd : Option Addr) : Prop :=
  ∃ C a vs, mg x.tag = some (.ref C) ∧ cls = .ref C ∧ dd = some a ∧ wd.B a = some (.xd vs) ∧ vs.map (·.1) = x.fs.map (·.1) ∧ RpL K wd (x.fs.map (·.2)) (vs.map (·.2))
/-- the errors' end: what X asks is what W asks -/
def XOk (X : Cx) (W : WX) (wd : Wd) (F : Hp) (σ : St) (P : KX) : Prop :=
  ∀ wd' x cs cls dd H, wd.le wd' → Rl X.K wd' F cs H → RpX X.K X.mg wd' x cls dd → P x cs → W cls dd σ H
theorem XOk.mono {X : Cx} {W : WX} {wd wd' : Wd} {F : Hp} {σ : St} {P : KX} (h : XOk X W wd F σ P) (l : wd.le wd') : XOk X W wd' F σ P :=
  fun wd2 x cs cls dd H l2 => h wd2 x cs cls dd H (l.trans l2)
def QOk (K : PySem.W.Frag) (wd : Wd) (F : Hp) (P : KD) (Q : VK) : Prop :=
  ∀ wd' d cs v H, wd.le wd' → Rl K wd' F cs H → Rp K wd' d v → P d cs → Q v H
theorem QOk.mono {K : PySem.W.Frag} {wd wd' : Wd} {F : Hp} {P : KD} {Q : VK} (h : QOk K wd F P Q) (l : wd.le wd') : QOk K wd' F P Q :=
  fun wd2 d cs v H l2 => h wd2 d cs v H (l.trans l2)

def RefE (X : Cx) (W : WX) (te : TE) (c : E) : Prop := ∀ wd F τ cs σ H (P : KD) (PX : KX) (Q : VK), Rl X.K wd F cs H → RS X.K wd τ σ → wpE c τ cs P PX → QOk X.K wd F P Q → XOk X W wd F σ PX → te σ H Q
def RefT (X : Cx) (W : WX) (tt : TT) (c : E) : Prop := ∀ wd F τ cs σ H (P : KD) (PX : KX) (Q : Bool → Hp → Prop), Rl X.K wd F cs H → RS X.K wd τ σ → wpE c τ cs P PX →
  (∀ wd' d cs' H', wd.le wd' → Rl X.K wd' F cs' H' → P d cs' → ∃ k, d = .bl k ∧ Q k H') → XOk X W wd F σ PX → tt σ H Q
def RefA (X : Cx) (W : WX) (ta : TA) (c : Es) : Prop := ∀ wd F τ cs σ H (P : List D → Cs → Prop) (PX : KX) (Q : List V → Hp → Prop), Rl X.K wd F cs H → RS X.K wd τ σ → wpEs c τ cs P PX →
  (∀ wd' ds cs' vs H', wd.le wd' → Rl X.K wd' F cs' H' → RpL X.K wd' ds vs → P ds cs' → Q vs H') → XOk X W wd F σ PX → ta σ H Q
/-- the ends of a statement -/
structure EOk (X : Cx) (W : WX) (wd : Wd) (F : Hp) (P : G.Ends) (Q : L2.Ends) : Prop where
  nx : ∀ wd' τ cs σ H, wd.le wd' → Rl X.K wd' F cs H → RS X.K wd' τ σ → P.nx τ cs → Q.nx σ H
  bk : ∀ wd' τ cs σ H, wd.le wd' → Rl X.K wd' F cs H → RS X.K wd' τ σ → P.bk τ cs → Q.bk σ H
  ct : ∀ wd' τ cs σ H, wd.le wd' → Rl X.K wd' F cs H → RS X.K wd' τ σ → P.ct τ cs → Q.ct σ H
  rt : ∀ wd' d cs v H, wd.le wd' → Rl X.K wd' F cs H → Rp X.K wd' d v → P.rt d cs → Q.rt v H
  ex : ∀ wd' x τ cs σ cls dd H, wd.le wd' → Rl X.K wd' F cs H → RS X.K wd' τ σ → RpX X.K X.mg wd' x cls dd → P.ex x τ cs → W cls dd σ H
theorem EOk.mono {X : Cx} {W : WX} {wd wd' : Wd} {F : Hp} {P : G.Ends} {Q : L2.Ends} (h : EOk X W wd F P Q) (l : wd.le wd') : EOk X W wd' F P Q :=
  ⟨fun a τ cs σ H k => h.nx a τ cs σ H (l.trans k), fun a τ cs σ H k => h.bk a τ cs σ H (l.trans k), fun a τ cs σ H k => h.ct a τ cs σ H (l.trans k), fun a d cs v H k => h.rt a d cs v H (l.trans k), fun a x τ cs σ cls dd H k => h.ex a x τ cs σ cls dd H (l.trans k)⟩
theorem EOk.xok {X : Cx} {W : WX} {wd : Wd} {F : Hp} {P : G.Ends} {Q : L2.Ends} (h : EOk X W wd F P Q) {τ : Sl} {σ : St} (r : RS X.K wd τ σ) : XOk X W wd F σ (fun x cs => P.ex x τ cs) :=
  fun wd' x cs cls dd H l R rx p => h.ex wd' x τ cs σ cls dd H l R (r.mono l) rx p
def RefS (X : Cx) (W : WX) (ts : TS) (c : S) : Prop := ∀ wd F τ cs σ H (P : G.Ends) (Q : L2.Ends), Rl X.K wd F cs H → RS X.K wd τ σ → wpS c τ cs P → EOk X W wd F P Q → ts Q σ H

def JE (X : Cx) (W : WX) (e : Expr) (c : E) : Prop := ∃ te, PE X e te ∧ RefE X W te c
def JT (X : Cx) (W : WX) (e : Expr) (c : E) : Prop := ∃ tt, PT X e tt ∧ RefT X W tt c
def JA (X : Cx) (W : WX) (es : List Expr) (c : Es) : Prop := ∃ ta, PA X es ta ∧ RefA X W ta c
def JS (X : Cx) (W : WX) (st : Stmt) (c : S) : Prop := ∃ ts, PS X st ts ∧ RefS X W ts c
def JSs (X : Cx) (W : WX) (st : List Stmt) (c : S) : Prop := ∃ ts, PSs X st ts ∧ RefS X W ts c

section
variable {X : Cx} {W : WX} {pos : Pos}

/-! ### names, constants -/
theorem j_v (i : Nat) {x : Str} (hN : X.N[i]? = some x := by rfl) (hv : Vis X.env.scope x := by first | exact Or.inl rfl | exact Or.inr (Or.inl rfl) | exact Or.inr (Or.inr rfl)) (hd : (x == ("__debug__" : Str)) = false := by decide)
    (hcd : (x == ("__classdict__" : Str)) = false := by decide) : JE X W (.Name x pos) (.v i) := by
  refine ⟨_, pe_var (i := i) hN hv hd hcd, fun wd F τ cs σ H P PX Q R r h q x => ?_⟩
  have h : (match getV τ i with
    | some d => P d cs
    | none => False) := h
  cases e : getV τ i with
  | none =>
    rw [e] at h
    exact h.elim
  | some d =>
    rw [e] at h
    obtain ⟨v, a, b⟩ := r.at_ i d e
    exact ⟨v, a, q wd d cs v H (Wd.le.refl _) R b h⟩
theorem j_int {i : Int} {j} : JE X W (.Constant (.int i) j pos) (.c (.int i)) := ⟨_, pe_int, fun wd F τ cs σ H P PX Q R r h q x => q wd (.int i) cs _ H (Wd.le.refl _) R rfl h⟩
theorem j_bl {b : Bool} {j} : JE X W (.Constant (.bool b) j pos) (.c (.bl b)) := ⟨_, pe_bl, fun wd F τ cs σ H P PX Q R r h q x => q wd (.bl b) cs _ H (Wd.le.refl _) R rfl h⟩
theorem j_non {j} : JE X W (.Constant .none j pos) (.c .non) := ⟨_, pe_non, fun wd F τ cs σ H P PX Q R r h q x => q wd .non cs _ H (Wd.le.refl _) R rfl h⟩
theorem j_str {s : Str} {j} : JE X W (.Constant (.str s) j pos) (.c (.str s)) := ⟨_, pe_str, fun wd F τ cs σ H P PX Q R r h q x => q wd (.str s) cs _ H (Wd.le.refl _) R rfl h⟩
/-- a module's constant -/
theorem j_glob {x : Str} {d : D} {v : V} {u : Value} (hg : Gl X x) (hm : X.mg x = some u) (r : RelV v u) (hr : ∀ wd, Rp X.K wd d v) (hd : (x == ("__debug__" : Str)) = false := by decide) : JE X W (.Name x pos) (.c d) :=
  ⟨_, pe_glob hg hm r hd, fun wd F τ cs σ H P PX Q R _ h q x => q wd _ cs _ H (Wd.le.refl _) R (hr wd) h⟩

/-! ### arguments -/
theorem ja_nil : JA X W [] .nil := ⟨_, pa_nil, fun wd F τ cs σ H P PX Q R r h q x => q wd [] cs [] H (Wd.le.refl _) R rfl h⟩
theorem ja_cons {e : Expr} {es : List Expr} {c : E} {cs : Es} (h1 : JE X W e c) (h2 : JA X W es cs) (hs : starEach (e :: es) X.env = (false, eval e X.env) :: starEach es X.env := by rfl) : JA X W (e :: es) (.cons c cs) := by
  obtain ⟨te, p1, r1⟩ := h1
  obtain ⟨ta, p2, r2⟩ := h2
  refine ⟨_, pa_cons p1 p2 hs, fun wd F τ cs σ H P PX Q R r h q x => ?_⟩
  refine r1 wd F τ cs σ H _ PX _ R r h (fun wd1 d c1 v H1 l1 R1 rv h1 => ?_) x
  refine r2 wd1 F τ c1 σ H1 _ PX _ R1 (r.mono l1) h1 (fun wd2 ds c2 vs H2 l2 R2 rvs h2 => ?_) (x.mono l1)
  exact q wd2 (d :: ds) c2 (v :: vs) H2 (l1.trans l2) R2 ⟨v, vs, rfl, rv.mono l2, rvs⟩ h2

/-! ### operations by values -/
/-- what a rule on values asks is what the core's asks -/
def Ref2 (K : PySem.W.Frag) (r : R2) (sp : Spec) : Prop := ∀ wd F cs H x y v w (P : KD) (PX : KX) (Q : VK), Rl K wd F cs H → Rp K wd x v → Rp K wd y w → sp [x, y] cs P PX → QOk K wd F P Q → r v w H Q
def RefN (K : PySem.W.Frag) (r : List V → Hp → VK → Prop) (sp : Spec) : Prop := ∀ wd F cs H ds vs (P : KD) (PX : KX) (Q : VK), Rl K wd F cs H → RpL K wd ds vs → sp ds cs P PX → QOk K wd F P Q → r vs H Q
variable {a b e : Expr} {ca cb cc : E} {sp sp' : Spec}
theorem ref_bin {r : R2} {ta tb : TE} (hr : Ref2 X.K r sp) (ha : RefE X W ta ca) (hb : RefE X W tb cb) : RefE X W (tOp r ta tb) (.app sp (.cons ca (.cons cb .nil))) := by
  intro wd F τ cs σ H P PX Q R rs h q x
  refine ha wd F τ cs σ H _ PX _ R rs h (fun wd1 d1 c1 v1 H1 l1 R1 rv1 h1 => ?_) x
  refine hb wd1 F τ c1 σ H1 _ PX _ R1 (rs.mono l1) h1 (fun wd2 d2 c2 v2 H2 l2 R2 rv2 h2 => ?_) (x.mono l1)
  exact hr wd2 F c2 H2 d1 d2 v1 v2 P PX Q R2 (rv1.mono l2) rv2 h2 (q.mono (l1.trans l2))
theorem j_op {op : Operator} {r : R2} (ho : OpR X (binaryOp op) r) (hr : Ref2 X.K r sp) (ha : JE X W a ca) (hb : JE X W b cb) : JE X W (.BinOp a op b pos) (.app sp (.cons ca (.cons cb .nil))) := by
  obtain ⟨ta, p1, r1⟩ := ha
  obtain ⟨tb, p2, r2⟩ := hb
  exact ⟨_, pe_op ho p1 p2, ref_bin hr r1 r2⟩
theorem j_cmp {op : CmpOp} {r : R2} (ho : OpR X (compareOp op) r) (hr : Ref2 X.K r sp) (ha : JE X W a ca) (hb : JE X W b cb) (hm : behindInMarks op b = false) : JE X W (.Compare a [op] [b] pos) (.app sp (.cons ca (.cons cb .nil))) := by
  obtain ⟨ta, p1, r1⟩ := ha
  obtain ⟨tb, p2, r2⟩ := hb
  exact ⟨_, pe_cmpR ho p1 p2 hm, ref_bin hr r1 r2⟩
/-- a value that is a bool, as a test -/
theorem ref_test {te : TE} {c : E} (h : RefE X W te c) : RefT X W (tTest te) c := by
  intro wd F τ cs σ H P PX Q R rs h1 q x
  refine h wd F τ cs σ H _ PX _ R rs h1 (fun wd1 d1 c1 v1 H1 l1 R1 rv1 h1 => ?_) x
  obtain ⟨k, e, hp⟩ := q wd1 d1 c1 H1 l1 R1 h1
  subst e
  exact ⟨k, rv1, hp⟩
theorem jt_cmp {op : CmpOp} {r : R2} (ho : OpR X (compareOp op) r) (hr : Ref2 X.K r sp) (ha : JE X W a ca) (hb : JE X W b cb) (hm : behindInMarks op b = false) : JT X W (.Compare a [op] [b] pos) (.app sp (.cons ca (.cons cb .nil))) := by
  obtain ⟨ta, p1, r1⟩ := ha
  obtain ⟨tb, p2, r2⟩ := hb
  exact ⟨_, pt_cmpR ho p1 p2 hm, ref_test (ref_bin hr r1 r2)⟩
end
end G

/-! GRules: operators, tests, displays, subscripts, calls of built-ins. -/
namespace G
open PySem PySem.Spec L2
open Evl (Ex)

section
variable {K : PySem.W.Frag}
theorem Rp.int {wd : Wd} {i : Int} {v : V} (h : Rp K wd (.int i) v) : v = .int i := h
theorem sInt_inv {C : Int → Int → Prop} {f : Int → Int → D} {x y : D} {cs : Cs} {Q : KD} {PX : KX} (h : sInt C f [x, y] cs Q PX) : ∃ i j, x = .int i ∧ y = .int j ∧ C i j ∧ Q (f i j) cs := by
  cases x with
  | int i =>
    cases y with
    | int j => exact ⟨i, j, rfl, rfl, h.1, h.2⟩
    | _ => exact h.elim
  | _ => exact h.elim
theorem ref_int {C C' : Int → Int → Prop} {f : Int → Int → D} {g : Int → Int → V} (hC : ∀ i j, C i j → C' i j) (h : ∀ wd i j, Rp K wd (f i j) (g i j)) : Ref2 K (rI C' g) (sInt C f) := by
  intro wd F cs H x y v w P PX Q R rx ry hs q
  obtain ⟨i, j, e1, e2, hc, hp⟩ := sInt_inv hs
  subst e1 e2
  exact ⟨i, j, rx, ry, hC i j hc, q wd _ cs _ H (Wd.le.refl _) R (h wd i j) hp⟩
theorem ref_int0 {f : Int → Int → D} {g : Int → Int → V} (h : ∀ wd i j, Rp K wd (f i j) (g i j)) : Ref2 K (rI0 g) (sInt CTrue f) := by
  intro wd F cs H x y v w P PX Q R rx ry hs q
  obtain ⟨i, j, e1, e2, hc, hp⟩ := sInt_inv hs
  subst e1 e2
  exact ⟨i, j, rx, ry, q wd _ cs _ H (Wd.le.refl _) R (h wd i j) hp⟩
end
section
variable {X : Cx} {W : WX} {pos : Pos} {a b c e : Expr} {ca cb cc ce : E}

/-! ### arithmetic -/
def CMulA (i j : Int) : Prop := CMul i j ∨ CMulW i j
theorem op_mulA : OpR X (binaryOp .Mult) (rI CMulA fun i j => .int (i * j)) := by
  intro pins s σ H x y v u Q I r1 r2 h
  obtain ⟨i, j, e1, e2, hc, q⟩ := h
  rcases hc with hc | hc
  · exact op_mul pins s σ H x y v u Q I r1 r2 ⟨i, j, e1, e2, hc, q⟩
  · exact op_mulW pins s σ H x y v u Q I r1 r2 ⟨i, j, e1, e2, hc, q⟩
theorem mulA_of {i j : Int} (h : mulOk i j) : CMulA i j := by
  unfold mulOk at h
  unfold CMulA CMul CMulW
  rcases h with h | h | h
  · exact .inl (.inl h)
  · exact .inl (.inr h)
  · exact .inr h
theorem j_sub (ha : JE X W a ca) (hb : JE X W b cb) : JE X W (.BinOp a .Sub b pos) (.app sSub (.cons ca (.cons cb .nil))) := j_op op_sub (ref_int0 fun _ _ _ => rfl) ha hb
theorem j_mul (ha : JE X W a ca) (hb : JE X W b cb) : JE X W (.BinOp a .Mult b pos) (.app sMul (.cons ca (.cons cb .nil))) := j_op op_mulA (ref_int (fun _ _ h => mulA_of h) fun _ _ _ => rfl) ha hb
theorem j_div (ha : JE X W a ca) (hb : JE X W b cb) : JE X W (.BinOp a .FloorDiv b pos) (.app sDiv (.cons ca (.cons cb .nil))) := j_op op_fdivW (ref_int (C' := CDivW) (fun _ _ h => h) fun _ _ _ => rfl) ha hb
theorem j_mod (ha : JE X W a ca) (hb : JE X W b cb) : JE X W (.BinOp a .Mod b pos) (.app sMod (.cons ca (.cons cb .nil))) := j_op op_mod (ref_int (fun _ _ h => h) fun _ _ _ => rfl) ha hb
theorem j_pow (ha : JE X W a ca) (hb : JE X W b cb) : JE X W (.BinOp a .Pow b pos) (.app sPow (.cons ca (.cons cb .nil))) := j_op op_pow (ref_int (C' := CPow) (fun _ _ h => h) fun _ _ _ => rfl) ha hb
theorem sizeL : sizeLine = lim := sizeLine_eq
end
end G

namespace G
open PySem PySem.Spec L2
open Evl (Ex)
section
variable {K : PySem.W.Frag} {wd : Wd} {F H : Hp} {cs : Cs}
/-- a new list in H: as a tree -/
theorem Rl.lst (R : Rl K wd F cs H) {p : Addr} (hp : H p = none) {ds : List D} {vs : List V} (r : RpL K wd ds vs) :
    ∃ wd', wd.le wd' ∧ Rl K wd' F cs (upd H p (.lst vs)) ∧ Rp K wd' (.lst ds) (.ref p) := by
  obtain ⟨R', le⟩ := R.new hp (.lst vs)
  exact ⟨_, le, R', p, vs, rfl, upd_same, RpL.mono le _ _ r⟩
theorem Rl.tup (R : Rl K wd F cs H) {p : Addr} (hp : H p = none) {ds : List D} {vs : List V} (r : RpL K wd ds vs) :
    ∃ wd', wd.le wd' ∧ Rl K wd' F cs (upd H p (.tup vs)) ∧ Rp K wd' (.tup ds) (.ref p) := by
  obtain ⟨R', le⟩ := R.new hp (.tup vs)
  exact ⟨_, le, R', p, vs, rfl, upd_same, RpL.mono le _ _ r⟩
/-- .. as a cell -/
theorem Rl.cellL (R : Rl K wd F cs H) {p : Addr} (hp : H p = none) {ds : List D} {vs : List V} (r : RpL K wd ds vs) :
    ∃ n wd', cs n = none ∧ wd.le wd' ∧ Rl K wd' F (put cs n (.lst ds)) (upd H p (.lst vs)) ∧ Rp K wd' (.ref n) (.ref p) := by
  obtain ⟨n, wd', hn, le, hr, R'⟩ := R.cellNew hp (o := .lst ds) ⟨vs, rfl, r⟩
  exact ⟨n, wd', hn, le, R', p, hr, rfl⟩
end
section
variable {X : Cx} {W : WX} {pos : Pos} {a b c e : Expr} {ca cb cc ce : E}
/-! ### + -/
def rAddA (K : PySem.W.Frag) : R2 := fun x y H Q => ((rI0 (fun i j => .int (i + j)) x y H Q ∨ (∃ i j, x = .str i ∧ y = .str j ∧ i.length + j.length ≤ sizeLine ∧ Q (.str (i ++ j)) H)) ∨ rCat x y H Q) ∨ rCatT K x y H Q
theorem op_addA : OpR X (binaryOp .Add) (rAddA X.K) := ((op_add.or op_add_str).or op_cat).or op_catT
theorem ref_add : Ref2 X.K (rAddA X.K) sAdd := by
  intro wd F cs H x y v w P PX Q R rx ry hs q
  have lists : ∀ {x y}, Rp X.K wd x v → Rp X.K wd y w → (match getL x cs, getL y cs with
    | some a, some b => a.length + b.length ≤ lim ∧ P (.lst (a ++ b)) cs
    | _, _ => False) → rCat v w H Q := fun {x y} rx ry h => by
    cases ex : getL x cs with
    | none =>
      rw [ex] at h
      exact h.elim
    | some xs =>
      cases ey : getL y cs with
      | none =>
        rw [ex, ey] at h
        exact h.elim
      | some ys =>
        rw [ex, ey] at h
        obtain ⟨a1, vs, e1, h1, r1⟩ := R.getL rx ex
        obtain ⟨a2, ws, e2, h2, r2⟩ := R.getL ry ey
        refine ⟨a1, a2, vs, ws, e1, e2, h1, h2, by rw [r1.length, r2.length, sizeL]; exact h.1, fun p hp => ?_⟩
        obtain ⟨wd', le, R', rp⟩ := R.lst hp (r1.append r2)
        exact q wd' _ cs _ _ le R' rp h.2
  cases x with
  | int i =>
    cases y with
    | int j => exact .inl (.inl (.inl ⟨i, j, rx, ry, q wd (.int (i + j)) cs _ H (Wd.le.refl _) R rfl hs⟩))
    | _ => exact hs.elim
  | str i =>
    cases y with
    | str j => exact .inl (.inl (.inr ⟨i, j, rx, ry, by rw [sizeL]; exact hs.1, q wd (.str (i ++ j)) cs _ H (Wd.le.refl _) R rfl hs.2⟩))
    | _ => exact hs.elim
  | tup xs =>
    cases y with
    | tup ys =>
      obtain ⟨a1, vs, e1, h1, r1⟩ := rx
      obtain ⟨a2, ws, e2, h2, r2⟩ := ry
      have ne : vs ≠ [] := fun z => hs.1 (List.length_eq_zero_iff.mp (by rw [← r1.length, z]; rfl))
      refine .inr ⟨a1, a2, vs, ws, e1, e2, SqT.of (R.b _ _ h1), SqT.of (R.b _ _ h2), ne, by rw [r1.length, r2.length, sizeL]; exact hs.2.1, fun z => ?_, fun z p hp => ?_⟩
      · have ey : ys = [] := List.length_eq_zero_iff.mp (by rw [← r2.length, z]; rfl)
        have e3 := hs.2.2
        rw [ey, List.append_nil] at e3
        have := q wd (.tup xs) cs v H (Wd.le.refl _) R ⟨a1, vs, e1, h1, r1⟩ e3
        rw [e1] at this
        exact this
      · obtain ⟨wd', le, R', rp⟩ := R.tup hp (r1.append r2)
        exact q wd' _ cs _ _ le R' rp hs.2.2
    | _ => exact hs.elim
  | lst xs => exact .inl (.inr (lists (x := .lst xs) rx ry (by cases y <;> exact hs)))
  | ref n => exact .inl (.inr (lists (x := .ref n) rx ry (by cases y <;> exact hs)))
  | _ => exact absurd hs (by cases y <;> exact fun z => z)
theorem j_add (ha : JE X W a ca) (hb : JE X W b cb) : JE X W (.BinOp a .Add b pos) (.app sAdd (.cons ca (.cons cb .nil))) := j_op op_addA ref_add ha hb

/-! ### comparisons of ints -/
theorem jt_lt (ha : JE X W a ca) (hb : JE X W b cb) : JT X W (.Compare a [.Lt] [b] pos) (.app sLt (.cons ca (.cons cb .nil))) := jt_cmp op_lt (ref_int0 fun _ _ _ => rfl) ha hb (nomark _)
theorem jt_gt (ha : JE X W a ca) (hb : JE X W b cb) : JT X W (.Compare a [.Gt] [b] pos) (.app sGt (.cons ca (.cons cb .nil))) := jt_cmp op_gt (ref_int0 fun _ _ _ => rfl) ha hb (nomark _)
theorem jt_ge (ha : JE X W a ca) (hb : JE X W b cb) : JT X W (.Compare a [.GtE] [b] pos) (.app sGe (.cons ca (.cons cb .nil))) := jt_cmp op_ge (ref_int0 fun _ _ _ => rfl) ha hb (nomark _)

/-! ### == of data -/
mutual
def toP : D → PyData
  | .non => .none
  | .bl b => .bool b
  | .int i => .int i
  | .str s => .str s
  | .tup xs => .tuple (toPs xs)
  | .lst xs => .list (toPs xs)
  | .dic _ _ => .none
  | .ref _ => .none
  | .scr => .none
  | .clo _ _ _ => .none
def toPs : List D → List PyData
  | [] => []
  | x :: xs => toP x :: toPs xs
end
theorem pur_purs {b : Bool} {k : Nat} {xs : List D} (h : (b && purs k xs) = true) : purs k xs = true := by
  rw [Bool.and_eq_true] at h
  exact h.2
mutual
theorem pur_lay : ∀ (k : Nat) (d : D), pur k d = true → (toP d).canLay0 = true ∧ (toP d).depth ≤ k
  | k, .non, _ => ⟨rfl, Nat.zero_le _⟩
  | k, .bl _, _ => ⟨rfl, Nat.zero_le _⟩
  | k, .int _, _ => ⟨rfl, Nat.zero_le _⟩
  | k, .str s, h => by
    have h : strOk s = true := by cases k <;> exact h
    exact ⟨h, Nat.zero_le _⟩
  | k + 1, .lst xs, h => by
    have h : purs k xs = true := pur_purs h
    obtain ⟨h1, h2⟩ := purs_lay k xs h
    exact ⟨by simpa [toP, PyData.canLay0] using h1, by simp only [toP, PyData.depth]; omega⟩
  | k + 1, .tup xs, h => by
    have h : purs k xs = true := pur_purs h
    obtain ⟨h1, h2⟩ := purs_lay k xs h
    exact ⟨by simpa [toP, PyData.canLay0] using h1, by simp only [toP, PyData.depth]; omega⟩
  | 0, .lst xs, h => by cases h
  | 0, .tup xs, h => by cases h
  | k, .dic _ _, h => by cases k <;> cases h
  | k, .ref _, h => by cases k <;> cases h
  | k, .scr, h => by cases k <;> cases h
  | k, .clo _ _ _, h => by cases k <;> cases h
theorem purs_lay : ∀ (k : Nat) (ds : List D), purs k ds = true → PyData.canLayAll0 (toPs ds) = true ∧ PyData.depthAll (toPs ds) ≤ k
  | k, [], _ => ⟨rfl, Nat.zero_le _⟩
  | k, d :: ds, h => by
    have h : (pur k d && purs k ds) = true := h
    rw [Bool.and_eq_true] at h
    obtain ⟨h1, h2⟩ := pur_lay k d h.1
    obtain ⟨h3, h4⟩ := purs_lay k ds h.2
    exact ⟨by simp [toPs, PyData.canLayAll0, h1, h3], by simp only [toPs, PyData.depthAll]; omega⟩
end
theorem pur_shaped {d : D} (h : pur 64 d = true) : SeqAt.shaped (toP d) = true := by
  obtain ⟨h1, h2⟩ := pur_lay 64 d h
  unfold SeqAt.shaped
  rw [h1, decide_eq_true h2]
  rfl
mutual
theorem eqD_eqv : ∀ (k j : Nat) (x y : D), pur k x = true → pur j y = true → eqD x y = PyData.eqv (toP x) (toP y)
  | k, j, .non, y, _, hy => by cases y <;> first | (cases j <;> cases hy; done) | simp [eqD, toP, PyData.eqv]
  | k, j, .bl a, y, _, hy => by cases y <;> first | (cases j <;> cases hy; done) | simp [eqD, toP, PyData.eqv]
  | k, j, .int a, y, _, hy => by cases y <;> first | (cases j <;> cases hy; done) | simp [eqD, toP, PyData.eqv]
  | k, j, .str a, y, _, hy => by cases y <;> first | (cases j <;> cases hy; done) | simp [eqD, toP, PyData.eqv]
  | k + 1, j, .lst xs, y, hx, hy => by
    have hx : purs k xs = true := pur_purs hx
    cases y with
    | lst ys =>
      cases j with
      | zero => cases hy
      | succ j =>
        have hy : purs j ys = true := pur_purs hy
        simp only [eqD, toP, PyData.eqv]
        exact eqDs_eqv k j xs ys hx hy
    | _ => first | (cases j <;> cases hy; done) | simp [eqD, toP, PyData.eqv]
  | k + 1, j, .tup xs, y, hx, hy => by
    have hx : purs k xs = true := pur_purs hx
    cases y with
    | tup ys =>
      cases j with
      | zero => cases hy
      | succ j =>
        have hy : purs j ys = true := pur_purs hy
        simp only [eqD, toP, PyData.eqv]
        exact eqDs_eqv k j xs ys hx hy
    | _ => first | (cases j <;> cases hy; done) | simp [eqD, toP, PyData.eqv]
  | 0, _, .lst xs, _, h, _ => by cases h
  | 0, _, .tup xs, _, h, _ => by cases h
  | k, _, .dic _ _, _, h, _ => by cases k <;> cases h
  | k, _, .ref _, _, h, _ => by cases k <;> cases h
  | k, _, .scr, _, h, _ => by cases k <;> cases h
  | k, _, .clo _ _ _, _, h, _ => by cases k <;> cases h
theorem eqDs_eqv : ∀ (k j : Nat) (xs ys : List D), purs k xs = true → purs j ys = true → eqDs xs ys = PyData.eqvAll (toPs xs) (toPs ys)
  | k, j, [], [], _, _ => rfl
  | k, j, [], _ :: _, _, _ => rfl
  | k, j, _ :: _, [], _, _ => rfl
  | k, j, x :: xs, y :: ys, hx, hy => by
    have hx : (pur k x && purs k xs) = true := hx
    have hy : (pur j y && purs j ys) = true := hy
    rw [Bool.and_eq_true] at hx hy
    simp only [eqDs, toPs, PyData.eqvAll, eqD_eqv k j x y hx.1 hy.1, eqDs_eqv k j xs ys hx.2 hy.2]
end
mutual
theorem dp_of {K : PySem.W.Frag} {wd : Wd} {H : Hp} (b : Ex wd.B H) : ∀ (k : Nat) (d : D) (v : V), pur k d = true → Rp K wd d v → Dp K H v (toP d)
  | k, .non, v, _, r => by cases (show v = _ from r); exact .non
  | k, .bl x, v, _, r => by cases (show v = _ from r); exact .bl x
  | k, .int x, v, _, r => by cases (show v = _ from r); exact .int x
  | k, .str x, v, _, r => by cases (show v = _ from r); exact .str x
  | k + 1, .lst xs, v, h, r => by
    obtain ⟨a, vs, e, s, q⟩ := r
    subst e
    exact .lst (SqL.of (b a _ s)) (dps_of b k xs vs (pur_purs h) q)
  | k + 1, .tup xs, v, h, r => by
    obtain ⟨a, vs, e, s, q⟩ := r
    subst e
    exact .tup (SqT.of (b _ _ s)) (dps_of b k xs vs (pur_purs h) q)
  | 0, .lst xs, _, h, _ => by cases h
  | 0, .tup xs, _, h, _ => by cases h
  | k, .dic _ _, _, h, _ => by cases k <;> cases h
  | k, .ref _, _, h, _ => by cases k <;> cases h
  | k, .scr, _, h, _ => by cases k <;> cases h
  | k, .clo _ _ _, _, h, _ => by cases k <;> cases h
theorem dps_of {K : PySem.W.Frag} {wd : Wd} {H : Hp} (b : Ex wd.B H) : ∀ (k : Nat) (ds : List D) (vs : List V), purs k ds = true → RpL K wd ds vs → DpAll K H vs (toPs ds)
  | k, [], vs, _, r => by
    cases (show vs = _ from r)
    exact .nil
  | k, d :: ds, vs, h, r => by
    have h : (pur k d && purs k ds) = true := h
    rw [Bool.and_eq_true] at h
    obtain ⟨v, r', e, r1, r2⟩ := r
    subst e
    exact .cons (dp_of b k d v h.1 r1) (dps_of b k ds r' h.2 r2)
end
theorem deref_none {cs : Cs} {n : Nat} (h : getL (.ref n) cs = none) : deref cs (.ref n) = .ref n := by
  have h : (match cs n with
      | some (.lst xs) => some xs
      | _ => none) = none := h
  show (match cs n with
      | some (.lst xs) => D.lst xs
      | _ => .ref n) = .ref n
  split at h <;> simp_all
theorem deref_some {cs : Cs} {n : Nat} {xs : List D} (h : getL (.ref n) cs = some xs) : deref cs (.ref n) = .lst xs := by
  have h : (match cs n with
      | some (.lst xs) => some xs
      | _ => none) = some xs := h
  show (match cs n with
      | some (.lst xs) => D.lst xs
      | _ => .ref n) = .lst xs
  split at h <;> simp_all
theorem dp_deref {K : PySem.W.Frag} {wd : Wd} {F H : Hp} {cs : Cs} (R : Rl K wd F cs H) {d : D} {v : V} (h : pur 64 (deref cs d) = true) (r : Rp K wd d v) : Dp K H v (toP (deref cs d)) := by
  cases d with
  | ref n =>
    cases hc : getL (.ref n) cs with
    | none =>
      rw [deref_none hc] at h
      cases h
    | some xs =>
      obtain ⟨a, vs, e1, h1, r1⟩ := R.getL (d := .ref n) r hc
      rw [deref_some hc] at h ⊢
      subst e1
      exact .lst (SqL.of h1) (dps_of R.b 63 xs vs (pur_purs h) r1)
  | _ => exact dp_of R.b 64 _ v h r
theorem ref_eq : Ref2 X.K (rEqD X.K) sEq := by
  intro wd F cs H x y v w P PX Q R rx ry hs q
  obtain ⟨h1, h2, h3⟩ := hs
  refine ⟨_, _, dp_deref R h1 rx, dp_deref R h2 ry, pur_shaped h1, pur_shaped h2, ?_⟩
  rw [← eqD_eqv 64 64 _ _ h1 h2]
  exact q wd (.bl _) cs _ H (Wd.le.refl _) R rfl h3
theorem ref_ne : Ref2 X.K (rNeD X.K) sNe := by
  intro wd F cs H x y v w P PX Q R rx ry hs q
  obtain ⟨h1, h2, h3⟩ := hs
  refine ⟨_, _, dp_deref R h1 rx, dp_deref R h2 ry, pur_shaped h1, pur_shaped h2, ?_⟩
  rw [← eqD_eqv 64 64 _ _ h1 h2]
  exact q wd (.bl _) cs _ H (Wd.le.refl _) R rfl h3
theorem j_eq (hu : X.A.units + 64 < cLine) (ha : JE X W a ca) (hb : JE X W b cb) : JE X W (.Compare a [.Eq] [b] pos) (.app sEq (.cons ca (.cons cb .nil))) := j_cmp (op_eqD hu) ref_eq ha hb (nomark _)
theorem jt_eq (hu : X.A.units + 64 < cLine) (ha : JE X W a ca) (hb : JE X W b cb) : JT X W (.Compare a [.Eq] [b] pos) (.app sEq (.cons ca (.cons cb .nil))) := jt_cmp (op_eqD hu) ref_eq ha hb (nomark _)
theorem jt_ne (hu : X.A.units + 64 < cLine) (ha : JE X W a ca) (hb : JE X W b cb) : JT X W (.Compare a [.NotEq] [b] pos) (.app sNe (.cons ca (.cons cb .nil))) := jt_cmp (op_neD hu) ref_ne ha hb (nomark _)
end
end G

namespace G
open PySem PySem.Spec L2
open Evl (Ex)
section
variable {X : Cx} {W : WX} {pos : Pos} {a b c e : Expr} {ca cb cc ce : E} {K : PySem.W.Frag}

/-! ### None; in -/
theorem isN_V {wd : Wd} {d : D} {v : V} (r : Rp K wd d v) : isN d = decide (v = .non) := by
  cases d with
  | non => cases (show v = _ from r); rfl
  | bl x => cases (show v = _ from r); rfl
  | int x => cases (show v = _ from r); rfl
  | str x => cases (show v = _ from r); rfl
  | tup ds => obtain ⟨a, _, e, _⟩ := r; subst e; rfl
  | lst ds => obtain ⟨a, _, e, _⟩ := r; subst e; rfl
  | dic _ _ => obtain ⟨a, _, e, _⟩ := r; subst e; rfl
  | ref n => obtain ⟨a, _, e⟩ := r; subst e; rfl
  | scr => obtain ⟨a, _, e, _⟩ := r; subst e; rfl
  | clo _ _ _ => obtain ⟨a, _, _, e, _⟩ := r; subst e; rfl
theorem ref_isN : Ref2 X.K (fun x y H Q => y = .non ∧ Q (.bl (decide (x = .non))) H) sIsN := by
  intro wd F cs H x y v w P PX Q R rx ry hs q
  cases y with
  | non =>
    have hs : P (.bl (isN x)) cs := hs
    rw [isN_V rx] at hs
    exact ⟨ry, q wd (.bl _) cs _ H (Wd.le.refl _) R rfl hs⟩
  | _ => exact hs.elim
theorem j_isN (ha : JE X W a ca) (hb : JE X W b cb) : JE X W (.Compare a [.Is] [b] pos) (.app sIsN (.cons ca (.cons cb .nil))) := j_cmp op_isN ref_isN ha hb (nomark _)
theorem jt_isN (ha : JE X W a ca) (hb : JE X W b cb) : JT X W (.Compare a [.Is] [b] pos) (.app sIsN (.cons ca (.cons cb .nil))) := jt_cmp op_isN ref_isN ha hb (nomark _)
theorem flat_V {wd : Wd} {d : D} {v : V} (r : Rp K wd d v) (h : flat d = true) : flatV v = true := by
  cases d with
  | non => cases (show v = _ from r); rfl
  | bl x => cases (show v = _ from r); rfl
  | int x => cases (show v = _ from r); rfl
  | str x => cases (show v = _ from r); rfl
  | _ => cases h
theorem flats_V {wd : Wd} : ∀ {ds : List D} {vs : List V}, RpL K wd ds vs → ds.all flat = true → vs.all flatV = true
  | [], vs, r, _ => by cases (show vs = _ from r); rfl
  | d :: ds, vs, r, h => by
    obtain ⟨v, r', e, r1, r2⟩ := r
    subst e
    rw [List.all_cons, Bool.and_eq_true] at h ⊢
    exact ⟨flat_V r1 h.1, flats_V r2 h.2⟩
theorem eqD_V {wd : Wd} {d d' : D} {v v' : V} (r : Rp K wd d v) (r' : Rp K wd d' v') (h : flat d = true) (h' : flat d' = true) : eqD d d' = eqV v v' := by
  cases d with
  | non => cases (show v = _ from r); cases d' <;> first | (cases (show v' = _ from r'); rfl) | cases h'
  | bl x => cases (show v = _ from r); cases d' <;> first | (cases (show v' = _ from r'); rfl) | cases h'
  | int x => cases (show v = _ from r); cases d' <;> first | (cases (show v' = _ from r'); rfl) | cases h'
  | str x => cases (show v = _ from r); cases d' <;> first | (cases (show v' = _ from r'); rfl) | cases h'
  | _ => cases h
theorem inD_V {wd : Wd} {d : D} {v : V} (r : Rp K wd d v) (h : flat d = true) : ∀ {ds : List D} {vs : List V}, RpL K wd ds vs → ds.all flat = true → inD d ds = inV v vs
  | [], vs, q, _ => by cases (show vs = _ from q); rfl
  | x :: ds, vs, q, z => by
    obtain ⟨v', r', e, r1, r2⟩ := q
    subst e
    rw [List.all_cons, Bool.and_eq_true] at z
    have := inD_V r h r2 z.2
    unfold inD inV at this ⊢
    rw [List.any_cons, List.any_cons, this, eqD_V r1 r z.1 h]
theorem ref_in : Ref2 X.K (rIn X.K false) sIn := by
  intro wd F cs H x y v w P PX Q R rx ry hs q
  have hs : (match getQ y cs with
    | some xs => flat x = true ∧ xs.all flat = true ∧ P (.bl (inD x xs)) cs
    | none => False) := hs
  cases ey : getQ y cs with
  | none => rw [ey] at hs; exact hs.elim
  | some xs =>
    rw [ey] at hs
    obtain ⟨h1, h2, h3⟩ := hs
    obtain ⟨a, vs, e, s, r⟩ := R.getQ ry ey
    refine ⟨a, vs, e, s.imp SqL.of id, flat_V rx h1, flats_V r h2, ?_⟩
    rw [inD_V rx h1 r h2] at h3
    exact q wd (.bl _) cs _ H (Wd.le.refl _) R rfl h3
theorem ref_notIn : Ref2 X.K (rIn X.K true) sNotIn := by
  intro wd F cs H x y v w P PX Q R rx ry hs q
  have hs : (match getQ y cs with
    | some xs => flat x = true ∧ xs.all flat = true ∧ P (.bl (!inD x xs)) cs
    | none => False) := hs
  cases ey : getQ y cs with
  | none => rw [ey] at hs; exact hs.elim
  | some xs =>
    rw [ey] at hs
    obtain ⟨h1, h2, h3⟩ := hs
    obtain ⟨a, vs, e, s, r⟩ := R.getQ ry ey
    refine ⟨a, vs, e, s.imp SqL.of id, flat_V rx h1, flats_V r h2, ?_⟩
    rw [inD_V rx h1 r h2] at h3
    exact q wd (.bl _) cs _ H (Wd.le.refl _) R rfl h3
theorem jt_in (ha : JE X W a ca) (hb : JE X W b cb) (hm : behindInMarks .In b = false := by rfl) : JT X W (.Compare a [.In] [b] pos) (.app sIn (.cons ca (.cons cb .nil))) := jt_cmp op_in_seq ref_in ha hb hm
theorem jt_notIn (ha : JE X W a ca) (hb : JE X W b cb) (hm : behindInMarks .NotIn b = false := by rfl) : JT X W (.Compare a [.NotIn] [b] pos) (.app sNotIn (.cons ca (.cons cb .nil))) := jt_cmp op_notIn_seq ref_notIn ha hb hm

/-! ### items -/
theorem ix_V {wd : Wd} {ds : List D} {vs : List V} {i : Int} {d : D} (r : RpL K wd ds vs) (h : ix ds i = some d) : ∃ v, atI vs i = some v ∧ Rp K wd d v := by
  unfold ix at h
  cases e : ixn ds.length i with
  | none =>
    rw [e] at h
    cases h
  | some j =>
    rw [e] at h
    have h : ds[j]? = some d := h
    obtain ⟨v, h1, h2⟩ := r.get h
    refine ⟨v, ?_, h2⟩
    have e2 : ixN vs.length i = some j := by rw [r.length]; exact e
    unfold atI
    rw [e2]
    exact h1
def rIxA (K : PySem.W.Frag) : R2 := fun x y H Q => rIxL K x y H Q ∨ rIxT K x y H Q
theorem ref_ix : Ref2 X.K (rIxA X.K) sIx := by
  intro wd F cs H x y v w P PX Q R rx ry hs q
  cases y with
  | int i =>
    have hs : (match getQ x cs with
      | some xs => match ix xs i with
        | some d => P d cs
        | none => False
      | none => False) := by cases x <;> exact hs
    cases ex : getQ x cs with
    | none => rw [ex] at hs; exact hs.elim
    | some xs =>
      rw [ex] at hs
      have hs : (match ix xs i with
        | some d => P d cs
        | none => False) := hs
      cases ed : ix xs i with
      | none => rw [ed] at hs; exact hs.elim
      | some d =>
        rw [ed] at hs
        obtain ⟨a, vs, e, s, r⟩ := R.getQ rx ex
        obtain ⟨z, hz, rz⟩ := ix_V r ed
        have fin := q wd d cs z H (Wd.le.refl _) R rz hs
        rcases s with s | s
        · exact .inl ⟨a, vs, i, z, e, ry, SqL.of s, hz, fin⟩
        · exact .inr ⟨a, vs, i, z, e, ry, s, hz, fin⟩
  | _ => exact absurd hs (by cases x <;> exact fun z => z)
theorem j_ix (ha : JE X W a ca) (hb : JE X W b cb) (hs : PlainIx b := by exact fun _ _ => rfl) : JE X W (.Subscript a b pos) (.app sIx (.cons ca (.cons cb .nil))) := by
  obtain ⟨ta, p1, r1⟩ := ha
  obtain ⟨tb, p2, r2⟩ := hb
  exact ⟨_, pe_ix (ix_list.or ix_tup) p1 p2 hs, ref_bin ref_ix r1 r2⟩

/-! ### displays -/
variable {es : List Expr} {ces : Es}
theorem j_list {k : Nat} (h : JA X W es ces) : JE X W (.List es pos) (.app sList ces) := by
  obtain ⟨ta, p1, r1⟩ := h
  refine ⟨_, pe_lst p1, fun wd F τ cs σ H P PX Q R rs h q x => ?_⟩
  refine r1 wd F τ cs σ H _ PX _ R rs h (fun wd1 ds c1 vs H1 l1 R1 rv h1 => ⟨by rw [rv.length, sizeL]; exact h1.1, fun p hp => ?_⟩) x
  obtain ⟨wd2, l2, R2, r2⟩ := R1.lst hp rv
  exact q wd2 _ c1 _ _ (l1.trans l2) R2 r2 h1.2
theorem j_listM (h : JA X W es ces) : JE X W (.List es pos) (.app sListM ces) := by
  obtain ⟨ta, p1, r1⟩ := h
  refine ⟨_, pe_lst p1, fun wd F τ cs σ H P PX Q R rs h q x => ?_⟩
  refine r1 wd F τ cs σ H _ PX _ R rs h (fun wd1 ds c1 vs H1 l1 R1 rv h1 => ⟨by rw [rv.length, sizeL]; exact h1.1, fun p hp => ?_⟩) x
  obtain ⟨n, wd2, hn, l2, R2, r2⟩ := R1.cellL hp rv
  exact q wd2 _ _ _ _ (l1.trans l2) R2 r2 (h1.2 n hn)
theorem j_tup {k : Nat} (h : JA X W es ces) : JE X W (.Tuple es k pos) (.app sTup ces) := by
  obtain ⟨ta, p1, r1⟩ := h
  refine ⟨_, pe_tup p1, fun wd F τ cs σ H P PX Q R rs h q x => ?_⟩
  refine r1 wd F τ cs σ H _ PX _ R rs h (fun wd1 ds c1 vs H1 l1 R1 rv h1 => ⟨by rw [rv.length, sizeL]; exact h1.1, fun p hp => ?_⟩) x
  obtain ⟨wd2, l2, R2, r2⟩ := R1.tup hp rv
  exact q wd2 _ c1 _ _ (l1.trans l2) R2 r2 h1.2

/-! ### built-ins -/
theorem j_bltn {r : List V → Hp → VK → Prop} {sp : Spec} {id : String} {x : Str} {p : Pos} (hc : CallR X (.builtin id) r) (hr : RefN X.K r sp) (hg : Gl X x) (hm : X.mg x = none) (hv : bootBuiltins x = some (.builtin id)) (ha : JA X W (e :: es) ces)
    (hn : x ≠ "__name__" := by decide) (hdb : (x == ("__debug__" : Str)) = false := by decide) (he : starEach (e :: es) X.env = (false, eval e X.env) :: starEach es X.env := by rfl) (hpl : (backTo pos (starEach es X.env)).any (·.1) = false := by rfl) :
    JE X W (.Call (.Name x p) (e :: es) [] pos) (.app sp ces) := by
  obtain ⟨ta, p1, r1⟩ := ha
  refine ⟨_, pe_callB hc hg hm hv p1 hn hdb he hpl, fun wd F τ cs σ H P PX Q R rs h q x => ?_⟩
  refine r1 wd F τ cs σ H _ PX _ R rs h (fun wd1 ds c1 vs H1 l1 R1 rv h1 => ?_) x
  exact hr wd1 F c1 H1 ds vs P PX Q R1 rv h1 (q.mono l1)
theorem j_bltnTy {r : List V → Hp → VK → Prop} {sp : Spec} {T : String} {x : Str} {p : Pos} (hc : CallR X (.type T) r) (hr : RefN X.K r sp) (hg : Gl X x) (hm : X.mg x = none) (hv : bootBuiltins x = some (.type T)) (ha : JA X W (e :: es) ces)
    (hn : x ≠ "__name__" := by decide) (hdb : (x == ("__debug__" : Str)) = false := by decide) (he : starEach (e :: es) X.env = (false, eval e X.env) :: starEach es X.env := by rfl) (hpl : (backTo pos (starEach es X.env)).any (·.1) = false := by rfl) :
    JE X W (.Call (.Name x p) (e :: es) [] pos) (.app sp ces) := by
  obtain ⟨ta, p1, r1⟩ := ha
  refine ⟨_, pe_callTy hc hg hm hv p1 hn hdb he hpl, fun wd F τ cs σ H P PX Q R rs h q x => ?_⟩
  refine r1 wd F τ cs σ H _ PX _ R rs h (fun wd1 ds c1 vs H1 l1 R1 rv h1 => ?_) x
  exact hr wd1 F c1 H1 ds vs P PX Q R1 rv h1 (q.mono l1)
theorem refn_len : RefN X.K (fun xs H Q => ∃ x n, xs = [x] ∧ LenV X.K x H n ∧ Q (.int n) H) sLen := by
  intro wd F cs H ds vs P PX Q R r hs q
  match ds, hs with
  | [d], hs =>
    obtain ⟨v, e, rv⟩ := r.one
    have go : (match getQ d cs with
        | some xs => P (.int xs.length) cs
        | none => False) → ∃ x n, vs = [x] ∧ LenV X.K x H n ∧ Q (.int n) H := fun h => by
      cases ex : getQ d cs with
      | none => rw [ex] at h; exact h.elim
      | some xs =>
        rw [ex] at h
        obtain ⟨a, ws, e2, s, r2⟩ := R.getQ rv ex
        subst e2
        refine ⟨.ref a, xs.length, e, ?_, q wd (.int _) cs _ H (Wd.le.refl _) R rfl h⟩
        rcases s with s | s
        · exact .inl ⟨ws, SqL.of s, r2.length.symm⟩
        · exact .inr ⟨ws, s, r2.length.symm⟩
    cases d with
    | str s =>
      cases (show v = _ from rv)
      exact ⟨.str s, s.length, e, ⟨by rw [sizeL]; exact hs.1, rfl⟩, q wd (.int _) cs _ H (Wd.le.refl _) R rfl hs.2⟩
    | tup xs => exact go hs
    | lst xs => exact go hs
    | ref n => exact go hs
    | _ => exact hs.elim
  | [], hs => exact hs.elim
  | _ :: _ :: _, hs => exact absurd hs (by intro z; first | exact z | (revert z; unfold sLen; simp))
theorem j_len {p : Pos} (hg : Gl X "len") (hm : X.mg "len" = none) (ha : JE X W a ca) (h1 : starEach [a] X.env = (false, eval a X.env) :: starEach [] X.env := by rfl) : JE X W (.Call (.Name "len" p) [a] [] pos) (.app sLen (.cons ca .nil)) :=
  j_bltn call_len refn_len hg hm PySem.boot_len (ja_cons ha ja_nil h1) (he := h1) (hpl := rfl)
end
end G

namespace G
open PySem PySem.Spec L2
open Evl (Ex)
section
variable {X : Cx} {W : WX} {pos : Pos} {a b c e : Expr} {ca cb cc ce : E} {K : PySem.W.Frag} {p : Pos}

theorem boot_listG : bootBuiltins "list" = some (.type "list") := by decide +kernel
theorem boot_tupleG : bootBuiltins "tuple" = some (.type "tuple") := by decide +kernel
theorem boot_intG : bootBuiltins "int" = some (.type "int") := by decide +kernel
theorem boot_boolG : bootBuiltins "bool" = some (.type "bool") := by decide +kernel
theorem boot_strG : bootBuiltins "str" = some (.type "str") := by decide +kernel
/-! ### list(..), tuple(..) -/
theorem refn_one {r : List V → Hp → VK → Prop} {f : D → Cs → KD → Prop} (hf : ∀ wd F cs H d v (P : KD) (Q : VK), Rl K wd F cs H → Rp K wd d v → f d cs P → QOk K wd F P Q → r [v] H Q) : RefN K r (fun ds cs Q _ => match ds with
    | [d] => f d cs Q
    | _ => False) := by
  intro wd F cs H ds vs P PX Q R rv hs q
  match ds, rv, hs with
  | [d], rv, hs =>
    obtain ⟨v, e, rv1⟩ := rv.one
    subst e
    exact hf wd F cs H d v P Q R rv1 hs q
  | [], _, hs => exact hs.elim
  | _ :: _ :: _, _, hs => exact hs.elim
theorem refn_listOf : RefN X.K (fun xs H Q => ∃ p ys, xs = [.ref p] ∧ (SqL X.K H p ys ∨ SqT X.K H p ys) ∧ ∀ l, H l = none → Q (.ref l) (upd H l (.lst ys))) sListOf := by
  refine refn_one (f := fun d cs Q => match getQ d cs with
    | some xs => Q (.lst xs) cs
    | none => False) fun wd F cs H d v P Q R rv h q => ?_
  cases ex : getQ d cs with
  | none => simp only [ex] at h
  | some xs =>
    simp only [ex] at h
    obtain ⟨a, ws, e2, s, r2⟩ := R.getQ rv ex
    subst e2
    refine ⟨a, ws, rfl, s.imp SqL.of id, fun l hl => ?_⟩
    obtain ⟨wd', le, R', rp⟩ := R.lst hl r2
    exact q wd' _ cs _ _ le R' rp h
theorem refn_tupOf : RefN X.K (fun xs H Q => ∃ p ys, xs = [.ref p] ∧ ((SqL X.K H p ys ∧ ∀ l, H l = none → Q (.ref l) (upd H l (.tup ys))) ∨ (SqT X.K H p ys ∧ Q (.ref p) H))) sTupOf := by
  refine refn_one (f := fun d cs Q => match getQ d cs with
    | some xs => Q (.tup xs) cs
    | none => False) fun wd F cs H d v P Q R rv h q => ?_
  have byL : ∀ {a ws xs}, v = .ref a → H a = some (.lst ws) → RpL X.K wd xs ws → P (.tup xs) cs → ∃ p ys, [v] = [.ref p] ∧ ((SqL X.K H p ys ∧ ∀ l, H l = none → Q (.ref l) (upd H l (.tup ys))) ∨ (SqT X.K H p ys ∧ Q (.ref p) H)) := fun {a ws xs} e2 s r2 h => by
    subst e2
    refine ⟨a, ws, rfl, .inl ⟨SqL.of s, fun l hl => ?_⟩⟩
    obtain ⟨wd', le, R', rp⟩ := R.tup hl r2
    exact q wd' _ cs _ _ le R' rp h
  cases d with
  | tup xs =>
    have h : P (.tup xs) cs := h
    obtain ⟨a, ws, e2, s, r2⟩ := id rv
    have := q wd _ cs _ H (Wd.le.refl _) R rv h
    subst e2
    exact ⟨a, ws, rfl, .inr ⟨(SqT.of (R.b _ _ s)), this⟩⟩
  | lst xs =>
    obtain ⟨a, ws, e2, s, r2⟩ := R.getL (d := .lst xs) rv rfl
    exact byL e2 s r2 h
  | ref n =>
    cases ex : getL (.ref n) cs with
    | none =>
      have ex : getQ (.ref n) cs = none := ex
      simp only [ex] at h
    | some xs =>
      have ex2 : getQ (.ref n) cs = some xs := ex
      simp only [ex2] at h
      obtain ⟨a, ws, e2, s, r2⟩ := R.getL (d := .ref n) rv ex
      exact byL e2 s r2 h
  | _ => exact h.elim
theorem j_listOf (hg : Gl X "list") (hm : X.mg "list" = none) (ha : JE X W a ca) (h1 : starEach [a] X.env = (false, eval a X.env) :: starEach [] X.env := by rfl) : JE X W (.Call (.Name "list" p) [a] [] pos) (.app sListOf (.cons ca .nil)) :=
  j_bltnTy call_list_of refn_listOf hg hm boot_listG (ja_cons ha ja_nil h1) (he := h1) (hpl := rfl)
theorem j_tupOf (hg : Gl X "tuple") (hm : X.mg "tuple" = none) (ha : JE X W a ca) (h1 : starEach [a] X.env = (false, eval a X.env) :: starEach [] X.env := by rfl) : JE X W (.Call (.Name "tuple" p) [a] [] pos) (.app sTupOf (.cons ca .nil)) :=
  j_bltnTy call_tuple_of refn_tupOf hg hm boot_tupleG (ja_cons ha ja_nil h1) (he := h1) (hpl := rfl)

/-! ### list(range(..)) -/
/-! ### all, sum, min, max -/
theorem asBools_V {wd : Wd} : ∀ {ds : List D} {vs : List V} {bs : List Bool}, RpL K wd ds vs → asBools ds = some bs → vs = bs.map V.bl
  | [], vs, bs, r, h => by
    cases (show vs = _ from r)
    cases h
    rfl
  | d :: ds, vs, bs, r, h => by
    obtain ⟨v, r', e, r1, r2⟩ := r
    subst e
    cases d with
    | bl x =>
      have h : (asBools ds).map (x :: ·) = some bs := h
      cases q : asBools ds with
      | none => rw [q] at h; cases h
      | some cs =>
        rw [q] at h
        cases h
        cases (show v = _ from r1)
        rw [asBools_V r2 q]
        rfl
    | _ => cases h
theorem asInts_V {wd : Wd} : ∀ {ds : List D} {vs : List V} {bs : List Int}, RpL K wd ds vs → asInts ds = some bs → vs = bs.map V.int
  | [], vs, bs, r, h => by
    cases (show vs = _ from r)
    cases h
    rfl
  | d :: ds, vs, bs, r, h => by
    obtain ⟨v, r', e, r1, r2⟩ := r
    subst e
    cases d with
    | int x =>
      have h : (asInts ds).map (x :: ·) = some bs := h
      cases q : asInts ds with
      | none => rw [q] at h; cases h
      | some cs =>
        rw [q] at h
        cases h
        cases (show v = _ from r1)
        rw [asInts_V r2 q]
        rfl
    | _ => cases h
theorem refn_all : RefN X.K (rAll X.K) sAll := by
  refine refn_one (f := fun d cs Q => match getL d cs with
    | some xs => match asBools xs with
      | some bs => Q (.bl (bs.all id)) cs
      | none => False
    | none => False) fun wd F cs H d v P Q R rv h q => ?_
  cases ex : getL d cs with
  | none => simp only [ex] at h
  | some xs =>
    simp only [ex] at h
    cases eb : asBools xs with
    | none => simp only [eb] at h
    | some bs =>
      simp only [eb] at h
      obtain ⟨a, ws, e2, s, r2⟩ := R.getL rv ex
      subst e2
      have := asBools_V r2 eb
      subst this
      exact ⟨a, bs, rfl, SqL.of s, q wd (.bl _) cs _ H (Wd.le.refl _) R rfl h⟩
theorem boot_allG : bootBuiltins "all" = some (.builtin "all") := by decide +kernel
theorem boot_isiG : bootBuiltins "isinstance" = some (.builtin "isinstance") := by decide +kernel
theorem j_all (hc : X.calm = true) (hg : Gl X "all") (hm : X.mg "all" = none) (ha : JE X W a ca) (h1 : starEach [a] X.env = (false, eval a X.env) :: starEach [] X.env := by rfl) : JE X W (.Call (.Name "all" p) [a] [] pos) (.app sAll (.cons ca .nil)) :=
  j_bltn (cr_all hc) refn_all hg hm boot_allG (ja_cons ha ja_nil h1) (he := h1) (hpl := rfl)
/-! ### isinstance -/
def tyN : Ty → String
  | .int => "int"
  | .bool => "bool"
  | .str => "str"
  | .list => "list"
  | .tuple => "tuple"
theorem kit_none (t : Ty) : kitB "NoneType" (tyN t) = some false := by cases t <;> decide +kernel
theorem kit_bool (t : Ty) : kitB "bool" (tyN t) = isTy (fun _ => none) (.bl true) t := by cases t <;> decide +kernel
theorem kit_int (t : Ty) : kitB "int" (tyN t) = isTy (fun _ => none) (.int 0) t := by cases t <;> decide +kernel
theorem kit_str (t : Ty) : kitB "str" (tyN t) = isTy (fun _ => none) (.str (Str.ofString "")) t := by cases t <;> decide +kernel
theorem kit_tup (t : Ty) : kitB "tuple" (tyN t) = isTy (fun _ => none) (.tup []) t := by cases t <;> decide +kernel
theorem kit_lst (t : Ty) : kitB "list" (tyN t) = isTy (fun _ => none) (.lst []) t := by cases t <;> decide +kernel
/-- a value's type, with the answers -/
theorem ty_V {wd : Wd} {F H : Hp} {cs : Cs} (R : Rl K wd F cs H) {d : D} {v : V} (r : Rp K wd d v) (hk : ∃ t b, isTy cs d t = some b) : ∃ n : String, TyX K H v (.type n) ∧ ∀ t b, isTy cs d t = some b → kitB n (tyN t) = some b := by
  cases d with
  | non => cases (show v = _ from r); exact ⟨_, .base .non, fun t b h => by rw [kit_none]; exact h⟩
  | bl x => cases (show v = _ from r); exact ⟨_, .base (.bl x), fun t b h => by rw [kit_bool, ← h]; cases t <;> rfl⟩
  | int x => cases (show v = _ from r); exact ⟨_, .base (.int x), fun t b h => by rw [kit_int, ← h]; cases t <;> rfl⟩
  | str x => cases (show v = _ from r); exact ⟨_, .base (.str x), fun t b h => by rw [kit_str, ← h]; cases t <;> rfl⟩
  | tup ds =>
    obtain ⟨a, xs, e, s, _⟩ := r
    subst e
    refine ⟨"tuple", ?_, fun t b h => by rw [kit_tup, ← h]; cases t <;> rfl⟩
    rcases (SqT.of (R.b _ _ s)) with (s | ⟨o, s⟩) | ⟨o, its, n, h1, h2, _⟩
    · exact .base (.tup s)
    · exact .fTuple s
    · exact .kTuple h1 h2
  | lst ds =>
    obtain ⟨a, xs, e, s, _⟩ := r
    subst e
    exact ⟨"list", .base (.lst (R.b a _ s)), fun t b h => by rw [kit_lst, ← h]; cases t <;> rfl⟩
  | dic _ _ => obtain ⟨t, b, h⟩ := hk; cases t <;> cases h
  | scr => obtain ⟨t, b, h⟩ := hk; cases t <;> cases h
  | clo _ _ _ => obtain ⟨t, b, h⟩ := hk; cases t <;> cases h
  | ref n =>
    obtain ⟨t, b, h⟩ := hk
    have hl : ∃ xs, cs n = some (.lst xs) := by
      cases q : cs n with
      | none => simp only [isTy, q] at h; cases h
      | some o =>
        cases o with
        | lst xs => exact ⟨xs, rfl⟩
        | _ => simp only [isTy, q] at h; cases h
    obtain ⟨xs, hl⟩ := hl
    obtain ⟨a, ws, e, s, _⟩ := R.getL (d := .ref n) (xs := xs) r (by simp only [getL, hl])
    subst e
    refine ⟨"list", .base (.lst s), fun t b h => ?_⟩
    rw [kit_lst, ← h]
    cases t <;> simp only [isTy, hl]
theorem j_isi {T : Str} {t : Ty} {q : Pos} (hg : Gl X "isinstance") (hm : X.mg "isinstance" = none) (hgT : Gl X T) (hmT : X.mg T = none) (hT : bootBuiltins T = some (.type (tyN t))) (ha : JE X W a ca) (hTn : T ≠ "__name__" := by decide) (hTd : (T == ("__debug__" : Str)) = false := by decide)
    (h1 : starEach [a, .Name T q] X.env = (false, eval a X.env) :: starEach [.Name T q] X.env := by rfl) (h2 : starEach [.Name T q] X.env = (false, eval (.Name T q) X.env) :: starEach [] X.env := by rfl) (hpl : (backTo pos (starEach [.Name T q] X.env)).any (·.1) = false := by rfl) :
    JE X W (.Call (.Name "isinstance" p) [a, .Name T q] [] pos) (.app (sIsi t) (.cons ca .nil)) := by
  obtain ⟨ta, p1, r1⟩ := ha
  refine ⟨_, pe_callB call_isi hg hm boot_isiG (pa_cons p1 (pa_cons (pe_bltn (v := .ty (tyN t)) hgT hmT hT rfl hTn hTd) pa_nil h2) h1) (he := h1) (hpl := hpl), fun wd F τ cs σ H P PX Q R rs h q x => ?_⟩
  refine r1 wd F τ cs σ H _ PX _ R rs h (fun wd1 d c1 v H1 l1 R1 rv h1 => ?_) x
  have h1 : (match isTy c1 d t with
    | some b => P (.bl b) c1
    | none => False) := h1
  cases eb : isTy c1 d t with
  | none => rw [eb] at h1; exact h1.elim
  | some b =>
    rw [eb] at h1
    obtain ⟨n, ty, hk⟩ := ty_V R1 rv ⟨t, b, eb⟩
    exact ⟨v, .ty (tyN t), .type n, .type (tyN t), b, rfl, .ty _, ty, kit_ty (hk t b eb), q wd1 (.bl b) c1 _ H1 l1 R1 rfl h1⟩
theorem j_isi2 {T T' : Str} {t t' : Ty} {q q' r' : Pos} {kk : Nat} (hg : Gl X "isinstance") (hm : X.mg "isinstance" = none) (hgT : Gl X T) (hmT : X.mg T = none) (hT : bootBuiltins T = some (.type (tyN t))) (hgT' : Gl X T') (hmT' : X.mg T' = none) (hT' : bootBuiltins T' = some (.type (tyN t'))) (ha : JE X W a ca)
    (hTn : T ≠ "__name__" := by decide) (hTd : (T == ("__debug__" : Str)) = false := by decide) (hTn' : T' ≠ "__name__" := by decide) (hTd' : (T' == ("__debug__" : Str)) = false := by decide)
    (h1 : starEach [a, .Tuple [.Name T q, .Name T' q'] kk r'] X.env = (false, eval a X.env) :: starEach [.Tuple [.Name T q, .Name T' q'] kk r'] X.env := by rfl) (h2 : starEach [.Tuple [.Name T q, .Name T' q'] kk r'] X.env = (false, eval (.Tuple [.Name T q, .Name T' q'] kk r') X.env) :: starEach [] X.env := by rfl) (hpl : (backTo pos (starEach [.Tuple [.Name T q, .Name T' q'] kk r'] X.env)).any (·.1) = false := by rfl)
    (h3 : starEach [.Name T q, .Name T' q'] X.env = (false, eval (.Name T q) X.env) :: starEach [.Name T' q'] X.env := by rfl) (h4 : starEach [.Name T' q'] X.env = (false, eval (.Name T' q') X.env) :: starEach [] X.env := by rfl) :
    JE X W (.Call (.Name "isinstance" p) [a, .Tuple [.Name T q, .Name T' q'] kk r'] [] pos) (.app (sIsi2 t t') (.cons ca .nil)) := by
  obtain ⟨ta, p1, r1⟩ := ha
  refine ⟨_, pe_callB call_isiT hg hm boot_isiG (pa_cons p1 (pa_cons (pe_tup (pa_cons (pe_bltn (v := .ty (tyN t)) hgT hmT hT rfl hTn hTd) (pa_cons (pe_bltn (v := .ty (tyN t')) hgT' hmT' hT' rfl hTn' hTd') pa_nil h4) h3)) pa_nil h2) h1) (he := h1) (hpl := hpl), fun wd F τ cs σ H P PX Q R rs h q x => ?_⟩
  refine r1 wd F τ cs σ H _ PX _ R rs h (fun wd1 d c1 v H1 l1 R1 rv h1 => ?_) x
  have h1 : (match isTy c1 d t, isTy c1 d t' with
    | some a, some b => P (.bl (a || b)) c1
    | _, _ => False) := h1
  cases eb : isTy c1 d t with
  | none => rw [eb] at h1; exact h1.elim
  | some b =>
    cases eb' : isTy c1 d t' with
    | none => rw [eb, eb'] at h1; exact h1.elim
    | some b' =>
      rw [eb, eb'] at h1
      refine ⟨by show 2 ≤ sizeLine; rw [sizeL]; decide, fun tp htp => ?_⟩
      obtain ⟨R2, l2⟩ := R1.new htp (.tup [.ty (tyN t), .ty (tyN t')])
      obtain ⟨n, ty, hk⟩ := ty_V R2 (rv.mono l2) ⟨t, b, eb⟩
      refine ⟨v, tp, [.ty (tyN t), .ty (tyN t')], .type n, [.type (tyN t), .type (tyN t')], b || b', rfl, upd_same, .cons (.ty _) (.cons (.ty _) .nil), ty, ?_, q _ (.bl (b || b')) c1 _ _ (l1.trans l2) R2 rfl h1⟩
      refine kitAny_cons (b := b) (kit_ty (hk t b eb)) (fun z => ?_) fun z => by rw [z]; rfl
      rw [z, Bool.false_or]
      exact kitAny_cons (b := b') (kit_ty (hk t' b' eb')) (fun z => by rw [z]; exact kitAny_nil) fun z => z
end
end G

/-! GStm: tests, statements, loops, comprehensions. -/
namespace G
open PySem PySem.Spec L2
open Evl (Ex)
def JW (X : Cx) (W : WX) (e : Expr) (c : E) : Prop := ∃ tt, PW X e tt ∧ RefT X W tt c
section
variable {X : Cx} {W : WX} {pos : Pos} {a b c e : Expr} {ca cb cc ce : E} {K : PySem.W.Frag} {p : Pos} {rest : List Expr}
/-! ### tests -/
theorem jt_val (h : JE X W e ce) (he : ∀ whole, isTrue e X.env whole = (do let v ← whole; standAt e.pos; holding [v] (truthy v)) := by intro _; rfl) : JT X W e ce := by
  obtain ⟨te, p1, r1⟩ := h
  refine ⟨_, pt_val p1 he, fun wd F τ cs σ H P PX Q R rs h q x => ?_⟩
  refine r1 wd F τ cs σ H _ PX _ R rs h (fun wd1 d c1 v H1 l1 R1 rv h1 => ?_) x
  obtain ⟨k, e, hp⟩ := q wd1 d c1 H1 l1 R1 h1
  subst e
  exact ⟨k, rv, hp⟩
theorem jt_w (h : JW X W e ce) : JT X W e ce := by
  obtain ⟨tt, p1, r1⟩ := h
  exact ⟨tt, p1.pt, r1⟩
theorem sNot_inv {d : D} {cs : Cs} {P : KD} {PX : KX} (h : sNot [d] cs P PX) : ∃ k, d = .bl k ∧ P (.bl (!k)) cs := by
  cases d with
  | bl k => exact ⟨k, rfl, h⟩
  | _ => exact h.elim
theorem jt_not (h : JT X W a ca) : JT X W (.UnaryOp .Not a pos) (.app sNot (.cons ca .nil)) := by
  obtain ⟨tt, p1, r1⟩ := h
  refine ⟨_, pt_not p1, fun wd F τ cs σ H P PX Q R rs h q x => ?_⟩
  refine r1 wd F τ cs σ H _ PX (fun c H1 => Q (!c) H1) R rs h (fun wd1 d c1 H1 l1 R1 h1 => ?_) x
  obtain ⟨k, e, hp⟩ := sNot_inv (PX := PX) h1
  obtain ⟨k', e', hp'⟩ := q wd1 _ c1 H1 l1 R1 hp
  cases e'
  exact ⟨k, e, hp'⟩
theorem jw_and1 (h : JT X W a ca) : JW X W (.BoolOp .And [a] pos) ca := by
  obtain ⟨tt, p1, r1⟩ := h
  exact ⟨_, pw_and1 p1, r1⟩
theorem jw_or1 (h : JT X W a ca) : JW X W (.BoolOp .Or [a] pos) ca := by
  obtain ⟨tt, p1, r1⟩ := h
  exact ⟨_, pw_or1 p1, r1⟩
theorem ref_andT {ta tb : TT} (r1 : RefT X W ta ca) (r2 : RefT X W tb cb) : RefT X W (tAnd ta tb) (.and ca cb) := by
  intro wd F τ cs σ H P PX Q R rs h q x
  refine r1 wd F τ cs σ H _ PX _ R rs h (fun wd1 d c1 H1 l1 R1 h1 => ?_) x
  cases d with
  | bl k =>
    refine ⟨k, rfl, ?_⟩
    cases k with
    | true => exact r2 wd1 F τ c1 σ H1 P PX Q R1 (rs.mono l1) h1 (fun wd2 d2 c2 H2 l2 => q wd2 d2 c2 H2 (l1.trans l2)) (x.mono l1)
    | false =>
      obtain ⟨k', e', hp'⟩ := q wd1 _ c1 H1 l1 R1 h1
      cases e'
      exact hp'
  | _ => exact h1.elim
theorem ref_orT {ta tb : TT} (r1 : RefT X W ta ca) (r2 : RefT X W tb cb) : RefT X W (tOr ta tb) (.or ca cb) := by
  intro wd F τ cs σ H P PX Q R rs h q x
  refine r1 wd F τ cs σ H _ PX _ R rs h (fun wd1 d c1 H1 l1 R1 h1 => ?_) x
  cases d with
  | bl k =>
    refine ⟨k, rfl, ?_⟩
    cases k with
    | false => exact r2 wd1 F τ c1 σ H1 P PX Q R1 (rs.mono l1) h1 (fun wd2 d2 c2 H2 l2 => q wd2 d2 c2 H2 (l1.trans l2)) (x.mono l1)
    | true =>
      obtain ⟨k', e', hp'⟩ := q wd1 _ c1 H1 l1 R1 h1
      cases e'
      exact hp'
  | _ => exact h1.elim
theorem jw_and (h1 : JT X W a ca) (h2 : JW X W (.BoolOp .And (b :: rest) pos) cb) : JW X W (.BoolOp .And (a :: b :: rest) pos) (.and ca cb) := by
  obtain ⟨ta, p1, r1⟩ := h1
  obtain ⟨tb, p2, r2⟩ := h2
  exact ⟨_, pw_and p1 p2, ref_andT r1 r2⟩
theorem jw_or (h1 : JT X W a ca) (h2 : JW X W (.BoolOp .Or (b :: rest) pos) cb) : JW X W (.BoolOp .Or (a :: b :: rest) pos) (.or ca cb) := by
  obtain ⟨ta, p1, r1⟩ := h1
  obtain ⟨tb, p2, r2⟩ := h2
  exact ⟨_, pw_or p1 p2, ref_orT r1 r2⟩
/-! ### the same as values -/
theorem je_one {op} (h : JE X W a ca) : JE X W (.BoolOp op [a] pos) ca := by
  obtain ⟨ta, p1, r1⟩ := h
  exact ⟨_, pe_one p1, r1⟩
theorem je_and (h1 : JE X W a ca) (h2 : JE X W (.BoolOp .And (b :: rest) pos) cb) : JE X W (.BoolOp .And (a :: b :: rest) pos) (.and ca cb) := by
  obtain ⟨ta, p1, r1⟩ := h1
  obtain ⟨tb, p2, r2⟩ := h2
  refine ⟨_, pe_and p1 p2, fun wd F τ cs σ H P PX Q R rs h q x => ?_⟩
  refine r1 wd F τ cs σ H _ PX _ R rs h (fun wd1 d c1 v H1 l1 R1 rv h1 => ?_) x
  cases d with
  | bl k =>
    refine ⟨k, rv, ?_⟩
    cases k with
    | true => exact r2 wd1 F τ c1 σ H1 P PX Q R1 (rs.mono l1) h1 (q.mono l1) (x.mono l1)
    | false => exact q wd1 (.bl false) c1 _ H1 l1 R1 rfl h1
  | _ => exact h1.elim
theorem je_or (h1 : JE X W a ca) (h2 : JE X W (.BoolOp .Or (b :: rest) pos) cb) : JE X W (.BoolOp .Or (a :: b :: rest) pos) (.or ca cb) := by
  obtain ⟨ta, p1, r1⟩ := h1
  obtain ⟨tb, p2, r2⟩ := h2
  refine ⟨_, pe_or p1 p2, fun wd F τ cs σ H P PX Q R rs h q x => ?_⟩
  refine r1 wd F τ cs σ H _ PX _ R rs h (fun wd1 d c1 v H1 l1 R1 rv h1 => ?_) x
  cases d with
  | bl k =>
    refine ⟨k, rv, ?_⟩
    cases k with
    | false => exact r2 wd1 F τ c1 σ H1 P PX Q R1 (rs.mono l1) h1 (q.mono l1) (x.mono l1)
    | true => exact q wd1 (.bl true) c1 _ H1 l1 R1 rfl h1
  | _ => exact h1.elim
theorem je_if (h : JT X W c cc) (h1 : JE X W a ca) (h2 : JE X W b cb) : JE X W (.IfExp c a b pos) (.ite cc ca cb) := by
  obtain ⟨tc, p0, r0⟩ := h
  obtain ⟨ta, p1, r1⟩ := h1
  obtain ⟨tb, p2, r2⟩ := h2
  refine ⟨_, pe_ifExp p0 p1 p2, fun wd F τ cs σ H P PX Q R rs h q x => ?_⟩
  refine r0 wd F τ cs σ H _ PX _ R rs h (fun wd1 d c1 H1 l1 R1 h1 => ?_) x
  cases d with
  | bl k =>
    refine ⟨k, rfl, ?_⟩
    cases k with
    | true => exact r1 wd1 F τ c1 σ H1 P PX Q R1 (rs.mono l1) h1 (q.mono l1) (x.mono l1)
    | false => exact r2 wd1 F τ c1 σ H1 P PX Q R1 (rs.mono l1) h1 (q.mono l1) (x.mono l1)
  | _ => exact h1.elim
/-! ### chains -/
theorem ref_chain {op op' : CmpOp} {r r' : R2} {s1 s2 : Spec} {ta tb tc : TE} (h1 : Ref2 X.K r s1) (h2 : Ref2 X.K r' s2) (ha : RefE X W ta ca) (hb : RefE X W tb cb) (hc : RefE X W tc cc) : RefE X W (tChain r r' ta tb tc) (.chain s1 s2 ca cb cc) := by
  intro wd F τ cs σ H P PX Q R rs h q x
  refine ha wd F τ cs σ H _ PX _ R rs h (fun wd1 d1 c1 v1 H1 l1 R1 rv1 h1' => ?_) x
  refine hb wd1 F τ c1 σ H1 _ PX _ R1 (rs.mono l1) h1' (fun wd2 d2 c2 v2 H2 l2 R2 rv2 h2' => ?_) (x.mono l1)
  refine h1 wd2 F c2 H2 d1 d2 v1 v2 _ PX _ R2 (rv1.mono l2) rv2 h2' fun wd3 d3 c3 v3 H3 l3 R3 rv3 h3 => ?_
  cases d3 with
  | bl k =>
    refine ⟨k, rv3, ?_⟩
    have l13 := l1.trans (l2.trans l3)
    cases k with
    | true =>
      refine hc wd3 F τ c3 σ H3 _ PX _ R3 (rs.mono l13) h3 (fun wd4 d4 c4 v4 H4 l4 R4 rv4 h4 => ?_) (x.mono l13)
      refine h2 wd4 F c4 H4 d2 d4 v2 v4 _ PX _ R4 (rv2.mono (l3.trans l4)) rv4 h4 fun wd5 d5 c5 v5 H5 l5 R5 rv5 h5 => ?_
      cases d5 with
      | bl k' => exact q wd5 _ c5 _ H5 (l13.trans (l4.trans l5)) R5 rv5 h5
      | _ => exact h5.elim
    | false => exact q wd3 (.bl false) c3 _ H3 l13 R3 rfl h3
  | _ => exact h3.elim
theorem jt_chain {op op' : CmpOp} {r r' : R2} {s1 s2 : Spec} (ho : OpR X (compareOp op) r) (ho' : OpR X (compareOp op') r') (h1 : Ref2 X.K r s1) (h2 : Ref2 X.K r' s2) (ha : JE X W a ca) (hb : JE X W b cb) (hc : JE X W c cc)
    (hm : lastMarks [op, op'] [b, c] = false := by with_unfolding_all rfl) : JT X W (.Compare a [op, op'] [b, c] pos) (.chain s1 s2 ca cb cc) := by
  obtain ⟨ta, p1, r1⟩ := ha
  obtain ⟨tb, p2, r2⟩ := hb
  obtain ⟨tc, p3, r3⟩ := hc
  exact ⟨_, pt_chain ho ho' p1 p2 p3 hm, ref_test (ref_chain (op := op) (op' := op') h1 h2 r1 r2 r3)⟩
theorem jt_chLeLe (ha : JE X W a ca) (hb : JE X W b cb) (hc : JE X W c cc) (hm : lastMarks [.LtE, .LtE] [b, c] = false := by with_unfolding_all rfl) : JT X W (.Compare a [.LtE, .LtE] [b, c] pos) (.chain sLe sLe ca cb cc) := jt_chain op_le op_le (ref_int0 fun _ _ _ => rfl) (ref_int0 fun _ _ _ => rfl) ha hb hc hm

/-! ### targets -/
def RefG (X : Cx) (g : TG) (pt : Pat) (own : List Nat) : Prop := ∀ wd F τ cs σ H d v τ' (Q : St → Hp → Prop), Rl X.K wd F cs H → RS X.K wd τ σ → Rp X.K wd d v → bindP pt [d] τ = some τ' →
  (∀ σ', RS X.K wd τ' σ' → L2.wipe σ' own = L2.wipe σ own → Q σ' H) → g v σ H Q
def RefGs (X : Cx) (g : TGs) (pt : Pat) (own : List Nat) : Prop := ∀ wd F τ cs σ H ds vs τ' (Q : St → Hp → Prop), Rl X.K wd F cs H → RS X.K wd τ σ → RpL X.K wd ds vs → bindP pt ds τ = some τ' →
  (∀ σ', RS X.K wd τ' σ' → L2.wipe σ' own = L2.wipe σ own → Q σ' H) → g vs σ H Q
def JG (X : Cx) (tg : Expr) (pt : Pat) (own : List Nat) : Prop := ∃ g, PG X tg g ∧ RefG X g pt own
def JGs (X : Cx) (tgs : List Expr) (pt : Pat) (own : List Nat) (n : Nat) : Prop := ∃ g, PGs X tgs g ∧ RefGs X g pt own ∧ ∀ ds (τ : Sl) τ', bindP pt ds τ = some τ' → ds.length = n
theorem wipe_in {σ : St} {i : Nat} : ∀ {vs : List Nat}, i ∈ vs → (L2.wipe σ vs)[i]? = if i < σ.length then some none else none
  | v :: vs, h => by
    show ((L2.wipe σ vs).set v none)[i]? = _
    by_cases e : i = v
    · subst e
      by_cases hl : i < σ.length
      · rw [if_pos hl, List.getElem?_set_self (by rw [L2.wipe_length]; exact hl)]
      · rw [if_neg hl, List.getElem?_eq_none (by rw [List.length_set, L2.wipe_length]; omega)]
    · rw [List.getElem?_set_ne (Ne.symm e)]
      exact wipe_in ((List.mem_cons.mp h).resolve_left e)
theorem wipe_set {σ : St} {i : Nat} {v : Option V} {own : List Nat} (h : i ∈ own) : L2.wipe (σ.set i v) own = L2.wipe σ own := by
  apply List.ext_getElem?
  intro k
  by_cases hk : k ∈ own
  · rw [wipe_in hk, wipe_in hk, List.length_set]
  · rw [L2.wipe_out hk, L2.wipe_out hk, List.getElem?_set_ne (fun e : i = k => hk (by rw [← e]; exact h))]
theorem jg_nm (i : Nat) {own : List Nat} {x : Str} (hN : X.N.Nodup) (hi : X.N[i]? = some x) (hx : Loc X.env.scope x) (ho : i ∈ own) (hf : X.fn x = true ∨ X.env.scope.names.lookup x = some .local := by first | exact .inl rfl | exact .inr rfl | assumption) : JG X (.Name x pos) (.nm i) own := by
  refine ⟨_, pg_name hN hi hx hf, fun wd F τ cs σ H d v τ' Q R rs rv hb h => ?_⟩
  cases hb
  exact h _ (rs.set i rv) (wipe_set ho)
theorem jgs_nil {own : List Nat} : JGs X [] .nil own 0 := by
  refine ⟨_, pgs_nil, fun wd F τ cs σ H ds vs τ' Q R rs rv hb h => ?_, fun ds τ τ' h => ?_⟩
  · cases ds with
    | nil =>
      cases hb
      exact ⟨rv, h _ rs rfl⟩
    | cons _ _ => cases hb
  · cases ds with
    | nil => rfl
    | cons _ _ => cases h
theorem jgs_cons {own : List Nat} {tg : Expr} {tgs : List Expr} {p q : Pat} {n : Nat} (h1 : JG X tg p own) (h2 : JGs X tgs q own n) (hs : (assignEach (tg :: tgs) X.env).map (·.2) = assign tg X.env :: (assignEach tgs X.env).map (·.2) := by rfl) : JGs X (tg :: tgs) (.cons p q) own (n + 1) := by
  obtain ⟨g1, p1, r1⟩ := h1
  obtain ⟨g2, p2, r2, hl⟩ := h2
  refine ⟨_, pgs_cons p1 p2 hs, fun wd F τ cs σ H ds vs τ' Q R rs rv hb h => ?_, fun ds τ τ' h => ?_⟩
  · cases ds with
    | nil => cases hb
    | cons d ds =>
      obtain ⟨v, r, e, rv1, rv2⟩ := rv
      subst e
      have hb : (match bindP p [d] τ with
        | some σ' => bindP q ds σ'
        | none => none) = some τ' := hb
      cases e1 : bindP p [d] τ with
      | none => rw [e1] at hb; cases hb
      | some τ1 =>
        rw [e1] at hb
        refine ⟨v, r, rfl, r1 wd F τ cs σ H d v τ1 _ R rs rv1 e1 fun σ1 rs1 w1 => ?_⟩
        exact r2 wd F τ1 cs σ1 H ds r τ' Q R rs1 rv2 hb fun σ2 rs2 w2 => h σ2 rs2 (w2.trans w1)
  · cases ds with
    | nil => cases h
    | cons d ds =>
      have hb : (match bindP p [d] τ with
        | some σ' => bindP q ds σ'
        | none => none) = some τ' := h
      cases e1 : bindP p [d] τ with
      | none => rw [e1] at hb; cases hb
      | some τ1 =>
        rw [e1] at hb
        rw [List.length_cons, hl ds τ1 τ' hb]
theorem jg_tup {own : List Nat} {es : List Expr} {k n : Nat} {q : Pat} (hc : X.calm = true) (h : JGs X es q own n) (hn : (assignEach es X.env).length = n := by rfl) (hst : (assignEach es X.env).findIdx? (·.1) = none := by rfl) : JG X (.Tuple es k pos) (.tup q) own := by
  obtain ⟨g, p1, r1, hl⟩ := h
  refine ⟨_, pg_tup hc p1 hn hst, fun wd F τ cs σ H d v τ' Q R rs rv hb h => ?_⟩
  cases d with
  | tup ds =>
    have hb : bindP q ds τ = some τ' := hb
    obtain ⟨a, xs, e, s, r⟩ := rv
    exact ⟨a, xs, e, SqT.of (R.b _ _ s), by rw [r.length]; exact hl ds τ τ' hb, r1 wd F τ cs σ H ds xs τ' Q R rs r hb h⟩
  | _ => cases hb

/-! ### statements -/
variable {s s1 s2 : S} {st : Stmt} {sts : List Stmt}
theorem jss_nil : JSs X W [] .skip := ⟨_, pss_nil, fun wd F τ cs σ H P Q R rs h q => q.nx wd τ cs σ H (Wd.le.refl _) R rs h⟩
theorem jss_one (h : JS X W st s) : JSs X W [st] s := by
  obtain ⟨t, p1, r1⟩ := h
  exact ⟨_, pss_one p1, r1⟩
theorem ref_seq {t1 t2 : TS} (r1 : RefS X W t1 s1) (r2 : RefS X W t2 s2) : RefS X W (tSeq t1 t2) (.seq s1 s2) := by
  intro wd F τ cs σ H P Q R rs h q
  refine r1 wd F τ cs σ H _ _ R rs h ⟨fun wd1 τ1 c1 σ1 H1 l1 R1 rs1 h1 => ?_, q.bk, q.ct, q.rt, q.ex⟩
  exact r2 wd1 F τ1 c1 σ1 H1 P Q R1 rs1 h1 (q.mono l1)
theorem jss_cons (h1 : JS X W st s1) (h2 : JSs X W sts s2) : JSs X W (st :: sts) (.seq s1 s2) := by
  obtain ⟨t1, p1, r1⟩ := h1
  obtain ⟨t2, p2, r2⟩ := h2
  exact ⟨_, pss_cons p1 p2, ref_seq r1 r2⟩
/-- a dict's cell becomes known: it is locked for good -/
theorem Rl.freezeD {K : PySem.W.Frag} {wd : Wd} {F H : Hp} {cs : Cs} (R : Rl K wd F cs H) {n : Nat} {ob : Ob} {a : Addr} {u : HO} (hn : cs n = some ob) (ha : wd.r n = some a) (hH : H a = some u) (o : Obj) :
    wd.le ⟨upd wd.B a (.frz o u), wd.r, wd.k⟩ ∧ Rl K ⟨upd wd.B a (.frz o u), wd.r, wd.k⟩ F (del cs n) (upd H a (.frz o u)) := by
  obtain ⟨a', u', e1, e2, e3, e4, e5⟩ := R.cell n _ hn
  have ea : a' = a := Option.some.inj (e1.symm.trans ha)
  subst ea
  have le : wd.le ⟨upd wd.B a' (.frz o u), wd.r, wd.k⟩ := ⟨Ex.new e2, fun _ _ h => h⟩
  refine ⟨le, ⟨fun b w e => ?_, fun b w e => ?_, fun b w e => ?_, R.inj, fun m w e => ?_, fun m b e => ?_, R.top, R.rf, R.fe, fun p hp => ?_, R.btNew (fun q z => by cases z)⟩⟩
  · have e : upd wd.B a' (.frz o u) b = some w := e
    by_cases h : b = a'
    · subst h
      rw [upd_same] at e ⊢
      exact e
    · rw [upd_ne h] at e ⊢
      exact R.b b w e
  · rw [upd_ne (ne_of_none e e3)]
    exact R.f b w e
  · have e : upd wd.B a' (.frz o u) b = some w := e
    by_cases h : b = a'
    · subst h
      exact e3
    · rw [upd_ne h] at e
      exact R.bf b w e
  · unfold del at e
    by_cases hm : m = n
    · rw [if_pos hm] at e
      cases e
    · rw [if_neg hm] at e
      obtain ⟨b, x, f1, f2, f3, f4, f5⟩ := R.cell m w e
      have ne : b ≠ a' := fun z => hm (R.inj m n a' (by rw [← z]; exact f1) e1)
      exact ⟨b, x, f1, (upd_ne ne).trans f2, f3, (upd_ne ne).trans f4, f5.mono le⟩
  · by_cases h : b = a'
    · subst h
      exact ⟨_, upd_same, fun q z => by cases z⟩
    · obtain ⟨w, hw, hk⟩ := R.ran m b e
      exact ⟨w, by rw [upd_ne h]; exact hw, hk⟩
  · obtain ⟨ps, h1, h2, h3⟩ := R.tab p hp
    have ne : p.1 ≠ a' := fun z => by
      rw [z, e4] at h1
      exact e5.notbl ps (Option.some.inj h1)
    exact ⟨ps, by rw [upd_ne ne]; exact h1, h2, fun pos cv e => let ⟨c, e1, e2⟩ := h3 pos cv e; ⟨c, e1, le.B _ _ e2⟩⟩
def tOrLock (t : TS) : TS := fun D σ H => t D σ H ∨ ∃ d u, H d = some u ∧ Mut (some u) ∧ ∀ od, t D σ (upd H d (.frz od u))
theorem pss_orLock {X : Cx} {sts : List Stmt} {t : TS} (h : PSs X sts t) : PSs X sts (tOrLock t) := by
  refine ⟨fun pins s σ H D I hw => ?_⟩
  rcases hw with hw | ⟨d, u, hd, mu, hw⟩
  · exact h.run pins s σ H D I hw
  · obtain ⟨od, I1⟩ := I.lock hd mu
    exact h.run pins s σ _ D I1 (hw od)
/-- a list or a dict in a slot becomes a tree: no statement of the program's -/
theorem jss_frz (i : Nat) (h : JSs X W sts s) : JSs X W sts (.seq (.frz i) s) := by
  obtain ⟨t, p1, r1⟩ := h
  refine ⟨_, pss_orLock p1, fun wd F τ cs σ H P Q R rs h q => ?_⟩
  have h : (match getV τ i with
    | some (.ref n) => match cs n with
      | some (.lst xs) => wpS s (τ.set i (some (.lst xs))) (del cs n) P
      | some (.dic ks vs) => wpS s (τ.set i (some (.dic ks vs))) (del cs n) P
      | some (.dit l) => wpS s (τ.set i (some (.dic (l.map fun p => .tup (p.1.map kD)) (l.map (·.2))))) (del cs n) P
      | _ => False
    | _ => False) := h
  cases e : getV τ i with
  | none => rw [e] at h; exact h.elim
  | some d =>
    rw [e] at h
    cases d with
    | ref n =>
      have h : (match cs n with
        | some (.lst xs) => wpS s (τ.set i (some (.lst xs))) (del cs n) P
        | some (.dic ks vs) => wpS s (τ.set i (some (.dic ks vs))) (del cs n) P
        | some (.dit l) => wpS s (τ.set i (some (.dic (l.map fun p => .tup (p.1.map kD)) (l.map (·.2))))) (del cs n) P
        | _ => False) := h
      cases ec : cs n with
      | none => rw [ec] at h; exact h.elim
      | some o =>
        rw [ec] at h
        cases o with
        | lst xs =>
          obtain ⟨v, hv, a, ea, ev⟩ := rs.at_ i _ e
          obtain ⟨wd', a', le, ha', R', rp⟩ := R.freeze ec
          have : a' = a := Option.some.inj (ha'.symm.trans ea)
          subst this
          subst ev
          exact .inl (r1 wd' F _ _ σ H P Q R' ((rs.mono le).swap i hv rp) h (q.mono le))
        | dic ks vs =>
          obtain ⟨v, hv, a, ea, ev⟩ := rs.at_ i _ e
          obtain ⟨a', u, f1, f2, f3, f4, kvs, f5, f6, f7⟩ := R.cell n _ ec
          have : a' = a := Option.some.inj (f1.symm.trans ea)
          subst this
          subst ev f5
          refine .inr ⟨a', _, f4, trivial, fun od => ?_⟩
          obtain ⟨le, R'⟩ := R.freezeD ec ea f4 od
          exact r1 _ F _ _ σ _ P Q R' ((rs.mono le).swap i hv (show Rp X.K _ (.dic ks vs) (.ref a') from ⟨a', od, rfl, .inl ⟨kvs, upd_same, f6, RpL.mono le _ _ f7⟩⟩)) h (q.mono le)
        | dit l =>
          obtain ⟨v, hv, a, ea, ev⟩ := rs.at_ i _ e
          obtain ⟨a', u, f1, f2, f3, f4, kvs, f5, f6, f7⟩ := R.cell n _ ec
          have : a' = a := Option.some.inj (f1.symm.trans ea)
          subst this
          subst ev f5
          refine .inr ⟨a', _, f4, trivial, fun od => ?_⟩
          obtain ⟨le, R'⟩ := R.freezeD ec ea f4 od
          have ek : (l.map fun p => D.tup (p.1.map kD)) = kvs.map fun p => D.tup (p.1.map kD) := by
            have := congrArg (List.map fun k : List (Sum Int Str) => D.tup (k.map kD)) f6
            rw [List.map_map, List.map_map] at this
            exact this
          exact r1 _ F _ _ σ _ P Q R' ((rs.mono le).swap i hv (show Rp X.K _ (.dic (l.map fun p => .tup (p.1.map kD)) (l.map (·.2))) (.ref a') from ⟨a', od, rfl, .inr (.inl ⟨kvs, upd_same, ek, RpL.mono le _ _ f7⟩)⟩)) h (q.mono le)
        | _ => exact h.elim
    | _ => exact h.elim
theorem js_cont : JS X W (.Continue pos) .cont := ⟨_, ps_continue, fun wd F τ cs σ H P Q R rs h q => q.ct wd τ cs σ H (Wd.le.refl _) R rs h⟩
theorem js_exp (h : JE X W e ce) (hs : swapsWith e none pos.line X.env = pure false := by rfl) : JS X W (.Expr e pos) (.exp ce) := by
  obtain ⟨t, p1, r1⟩ := h
  refine ⟨_, ps_expr p1 hs, fun wd F τ cs σ H P Q R rs h q => ?_⟩
  exact r1 wd F τ cs σ H _ _ _ R rs h (fun wd1 d c1 v H1 l1 R1 rv h1 => q.nx wd1 τ c1 σ H1 l1 R1 (rs.mono l1) h1) (q.xok rs)
theorem js_ret (h : JE X W e ce) : JS X W (.Return (some e) pos) (.ret ce) := by
  obtain ⟨t, p1, r1⟩ := h
  refine ⟨_, ps_ret p1, fun wd F τ cs σ H P Q R rs h q => ?_⟩
  exact r1 wd F τ cs σ H _ _ _ R rs h (fun wd1 d c1 v H1 l1 R1 rv h1 => q.rt wd1 d c1 v H1 l1 R1 rv h1) (q.xok rs)
theorem js_if {xs ys : List Stmt} (h : JT X W c cc) (h1 : JSs X W xs s1) (h2 : JSs X W ys s2) : JS X W (.If c xs ys pos) (.ite cc s1 s2) := by
  obtain ⟨t0, p0, r0⟩ := h
  obtain ⟨t1, p1, r1⟩ := h1
  obtain ⟨t2, p2, r2⟩ := h2
  refine ⟨_, ps_if p0 p1 p2, fun wd F τ cs σ H P Q R rs h q => ?_⟩
  refine r0 wd F τ cs σ H _ _ _ R rs h (fun wd1 d c1 H1 l1 R1 h1 => ?_) (q.xok rs)
  cases d with
  | bl k =>
    refine ⟨k, rfl, ?_⟩
    cases k with
    | true => exact r1 wd1 F τ c1 σ H1 P Q R1 (rs.mono l1) h1 (q.mono l1)
    | false => exact r2 wd1 F τ c1 σ H1 P Q R1 (rs.mono l1) h1 (q.mono l1)
  | _ => exact h1.elim
theorem js_set (i : Nat) {x : Str} {p' : Pos} (hN : X.N.Nodup) (hi : X.N[i]? = some x) (hx : Loc X.env.scope x) (he : JE X W e ce) (hs : swapsWith e (some (.Name x p')) pos.line X.env = pure false := by rfl) (hf : X.fn x = true ∨ X.env.scope.names.lookup x = some .local := by first | exact .inl rfl | exact .inr rfl | assumption) :
    JS X W (.Assign [.Name x p'] e pos) (.asg (.nm i) ce) := by
  obtain ⟨t, p1, r1⟩ := he
  refine ⟨_, ps_set hN hi hx p1 hs hf, fun wd F τ cs σ H P Q R rs h q => ?_⟩
  exact r1 wd F τ cs σ H _ _ _ R rs h (fun wd1 d c1 v H1 l1 R1 rv h1 => q.nx wd1 _ c1 _ H1 l1 R1 ((rs.mono l1).set i rv) h1) (q.xok rs)
theorem js_par (i j : Nat) {x y : Str} {px py pt : Pos} {kt k2 pt2} (hc : X.calm = true) (hN : X.N.Nodup) (hi : X.N[i]? = some x) (hj : X.N[j]? = some y) (hij : i ≠ j)
    (hx : X.env.scope.names.lookup x = some .local) (hy : X.env.scope.names.lookup y = some .local) (ha : JE X W a ca) (hb : JE X W b cb)
    (hw : swappedStores [.Tuple [.Name x px, .Name y py] kt pt] (.Tuple [a, b] k2 pt2) X.env = pure (some [x, y]))
    (h1 : starEach [a, b] X.env = (false, eval a X.env) :: starEach [b] X.env := by rfl) (h2 : starEach [b] X.env = (false, eval b X.env) :: starEach [] X.env := by rfl)
    (hs : swapsWithSole [.Tuple [.Name x px, .Name y py] kt pt] (.Tuple [a, b] k2 pt2) pos.line X.env = pure false := by rfl) :
    JS X W (.Assign [.Tuple [.Name x px, .Name y py] kt pt] (.Tuple [a, b] k2 pt2) pos) (.asg (.tup (.cons (.nm i) (.cons (.nm j) .nil))) (.app sTup (.cons ca (.cons cb .nil)))) := by
  obtain ⟨ta, p1, r1⟩ := ja_cons ha (ja_cons hb ja_nil h2) h1
  refine ⟨_, ps_par hc hN hi hj hij hx hy p1 hw hs, fun wd F τ cs σ H P Q R rs h q => ?_⟩
  have h : wpEs (.cons ca (.cons cb .nil)) τ cs (fun ds cs' => sTup ds cs' (fun d c2 => match bindP (.tup (.cons (.nm i) (.cons (.nm j) .nil))) [d] τ with
    | some σ' => P.nx σ' c2
    | none => False) (fun x c2 => P.ex x τ c2)) (fun x c2 => P.ex x τ c2) := h
  refine r1 wd F τ cs σ H _ _ _ R rs h (fun wd1 ds c1 vs H1 l1 R1 rv h1 => ?_) (q.xok rs)
  have h1 := h1.2
  match ds, rv, h1 with
  | [d1, d2], rv, h1 =>
    obtain ⟨v, w, e, rv1, rv2⟩ := rv.two
    exact ⟨v, w, e, q.nx wd1 _ c1 _ H1 l1 R1 (((rs.mono l1).set i rv1).set j rv2) h1⟩
  | [], _, h1 => exact h1.elim
  | [_], _, h1 => exact h1.elim
  | _ :: _ :: _ :: _, _, h1 => exact h1.elim
end
end G

/-! GLoop: while, for, comprehensions, calls of defs. -/
namespace G
open PySem PySem.Spec L2
open Evl (Ex)
section
variable {X : Cx} {W : WX} {pos : Pos} {a b c e : Expr} {ca cb cc ce : E} {K : PySem.W.Frag} {p : Pos} {rest : List Expr} {s s1 s2 : S} {st : Stmt} {sts : List Stmt}
/-! ### while -/
theorem js_while (hp : PassesOwn (model X.prog X.w) X.A X.env X.xe) (h : JT X W c cc) (h1 : JSs X W sts s1) : JS X W (.While c sts [] pos) (.whl cc s1) := by
  obtain ⟨t0, p0, r0⟩ := h
  obtain ⟨t1, p1, r1⟩ := h1
  refine ⟨_, ps_while hp p0 p1, fun wd F τ cs σ H P Q R rs h q => ?_⟩
  obtain ⟨n, h⟩ := h
  refine ⟨fun m σ' H' => ∃ wd' τ' cs', wd.le wd' ∧ Rl X.K wd' F cs' H' ∧ RS X.K wd' τ' σ' ∧ whlN (wpE cc) (wpS s1) P m τ' cs', ⟨n, wd, τ, cs, Wd.le.refl _, R, rs, h⟩, ?_⟩
  rintro m σ' H' ⟨wd', τ', cs', l', R', rs', h'⟩
  cases m with
  | zero => exact h'.elim
  | succ m =>
    refine r0 wd' F τ' cs' σ' H' _ _ _ R' rs' h' (fun wd1 d c1 H1 l1 R1 h1 => ?_) ((q.mono l').xok rs')
    rcases h1 with ⟨e, h1⟩ | ⟨e, h1⟩
    · refine ⟨true, e, ?_⟩
      rw [if_pos rfl]
      have l2 := l'.trans l1
      refine ⟨fun σ2 H2 => ∃ wd2 τ2 cs2, wd.le wd2 ∧ Rl X.K wd2 F cs2 H2 ∧ RS X.K wd2 τ2 σ2 ∧ whlN (wpE cc) (wpS s1) P m τ2 cs2, fun σ2 H2 z => ⟨m, Nat.lt_succ_self m, z⟩, ?_⟩
      refine r1 wd1 F τ' c1 σ' H1 _ _ R1 (rs'.mono l1) h1 ⟨fun wd3 τ3 c3 σ3 H3 l3 R3 rs3 h3 => ⟨wd3, τ3, c3, l2.trans l3, R3, rs3, h3⟩, (q.mono l2).nx, fun wd3 τ3 c3 σ3 H3 l3 R3 rs3 h3 => ⟨wd3, τ3, c3, l2.trans l3, R3, rs3, h3⟩, (q.mono l2).rt, (q.mono l2).ex⟩
    · refine ⟨false, e, ?_⟩
      rw [if_neg Bool.false_ne_true]
      exact q.nx wd1 τ' c1 σ' H1 (l'.trans l1) R1 (rs'.mono l1) h1

/-! ### what is walked -/
/-- J yields the items, as long as the guard holds -/
structure ItOk (X : Cx) (wd : Wd) (F : Hp) (items : List D) (grd : Cs → Prop) (J : It) : Prop where
  go : ∀ wd' F' cs H i d, wd.le wd' → Rl X.K wd' F' cs H → grd cs → items[i]? = some d → J.go i H ∧ ∀ x H', J.yld i H x H' → ∃ wd'', wd'.le wd'' ∧ Rl X.K wd'' F' cs H' ∧ Rp X.K wd'' d x
  stop : ∀ wd' F' cs H, wd.le wd' → Rl X.K wd' F' cs H → grd cs → J.stop items.length H
def RefI (X : Cx) (W : WX) (wi : TI) (isp : ISpec) (as : Es) : Prop := ∀ wd F τ cs σ H (R' : List D → (Cs → Prop) → Cs → Prop) (PX : KX) (R : It → Hp → Prop), Rl X.K wd F cs H → RS X.K wd τ σ →
  wpEs as τ cs (fun ds c1 => isp ds c1 fun items grd => R' items grd c1) PX → (∀ wd1 items grd c1 J H1, wd.le wd1 → Rl X.K wd1 F c1 H1 → ItOk X wd1 F items grd J → R' items grd c1 → R J H1) → XOk X W wd F σ PX → wi σ H R
def JI (X : Cx) (W : WX) (tg iter : Expr) (isp : ISpec) (as : Es) : Prop := ∃ wi, PI X tg iter wi ∧ RefI X W wi isp as
theorem js_for {tg iter : Expr} {pt : Pat} {own : List Nat} {isp : ISpec} {as : Es} (hp : PassesOwn (model X.prog X.w) X.A X.env X.xe) (hc : X.calm = true) (hi : JI X W tg iter isp as) (hg : JG X tg pt own) (hb : JSs X W sts s1)
    (hs : ∀ x, foldedSetIterable iter X.env x = pure x := by intro _; rfl) : JS X W (.For tg iter sts [] pos) (.fr pt isp as s1) := by
  obtain ⟨wi, p0, r0⟩ := hi
  obtain ⟨g, p1, r1⟩ := hg
  obtain ⟨t, p2, r2⟩ := hb
  refine ⟨_, ps_for hp hc p0 p1 p2 hs, fun wd F τ cs σ H P Q R rs h q => ?_⟩
  refine r0 wd F τ cs σ H (fun items grd c1 => forL pt grd (wpS s1) P items τ c1) _ _ R rs h (fun wd1 items grd c1 J H1 l1 R1 it h1 => ?_) (q.xok rs)
  refine ⟨fun i m σ' H' => ∃ wd' τ' cs', wd1.le wd' ∧ Rl X.K wd' F cs' H' ∧ RS X.K wd' τ' σ' ∧ m = items.length - i ∧ i ≤ items.length ∧ forL pt grd (wpS s1) P (items.drop i) τ' cs', ⟨items.length, wd1, τ, c1, Wd.le.refl _, R1, rs.mono l1, by simp, Nat.zero_le _, h1⟩, ?_⟩
  rintro i m σ' H' ⟨wd', τ', cs', l', R', rs', em, hle, h'⟩
  by_cases hi : i < items.length
  · have ed : items.drop i = items[i] :: items.drop (i + 1) := List.drop_eq_getElem_cons hi
    rw [ed] at h'
    obtain ⟨hg, h'⟩ := h'
    obtain ⟨g0, gy⟩ := it.go wd' F cs' H' i items[i] l' R' hg (List.getElem?_eq_getElem hi)
    cases eb : bindP pt [items[i]] τ' with
    | none => rw [eb] at h'; exact h'.elim
    | some τ1 =>
      rw [eb] at h'
      refine .inr ⟨g0, fun σ2 H2 => ∃ wd' τ' cs', wd1.le wd' ∧ Rl X.K wd' F cs' H2 ∧ RS X.K wd' τ' σ2 ∧ forL pt grd (wpS s1) P (items.drop (i + 1)) τ' cs', fun σ2 H2 ⟨wd2, τ2, c2, l2, R2, rs2, h2⟩ => ⟨items.length - (i + 1), by omega, wd2, τ2, c2, l2, R2, rs2, rfl, hi, h2⟩, fun x H2 y => ?_⟩
      obtain ⟨wd2, l2, R2, rv⟩ := gy x H2 y
      refine r1 wd2 F τ' cs' σ' H2 items[i] x τ1 _ R2 (rs'.mono l2) rv eb fun σ3 rs3 _ => ?_
      have l12 := l'.trans l2
      have q2 := q.mono (l1.trans l12)
      exact r2 wd2 F τ1 cs' σ3 H2 _ _ R2 rs3 h' ⟨fun wd4 τ4 c4 σ4 H4 l4 R4 rs4 h4 => ⟨wd4, τ4, c4, l12.trans l4, R4, rs4, h4⟩, q2.nx, fun wd4 τ4 c4 σ4 H4 l4 R4 rs4 h4 => ⟨wd4, τ4, c4, l12.trans l4, R4, rs4, h4⟩, q2.rt, q2.ex⟩
  · have ei : i = items.length := by omega
    subst ei
    rw [List.drop_length] at h'
    exact .inl ⟨it.stop wd' F cs' H' l' R' h'.1, q.nx wd' τ' cs' σ' H' (l1.trans l') R' rs' h'.2⟩
end
end G

/-! GIter: lists, tuples, ranges, zips walked; comprehensions. -/
namespace G
open PySem PySem.Spec L2
open Evl (Ex)
section
variable {X : Cx} {W : WX} {pos : Pos} {a b c e : Expr} {ca cb cc ce : E} {K : PySem.W.Frag} {p : Pos} {rest : List Expr} {s s1 s2 : S} {st : Stmt} {sts : List Stmt}
/-- a list that stays as the guard says -/
theorem Rl.staysL {wd : Wd} {F H : Hp} {cs : Cs} (R : Rl K wd F cs H) {d : D} {v : V} {xs : List D} (r : Rp K wd d v) (h : G.getL d cs = some xs) :
    ∃ a, v = .ref a ∧ ∀ wd' F' cs' H', wd.le wd' → Rl K wd' F' cs' H' → grdL d cs cs' → ∃ vs, H' a = some (.lst vs) ∧ RpL K wd' xs vs := by
  obtain ⟨a, vs, e, s, q⟩ := R.getL r h
  refine ⟨a, e, fun wd' F' cs' H' l R' g => ?_⟩
  have h' : G.getL d cs' = some xs := by
    cases d with
    | ref n =>
      have g : cs' n = cs n := g
      unfold G.getL at h ⊢
      simp only [g]
      exact h
    | lst ys => exact h
    | _ => cases h
  obtain ⟨a', vs', e', s', q'⟩ := R'.getL (r.mono l) h'
  rw [e] at e'
  cases e'
  exact ⟨vs', s', q'⟩
theorem Rl.staysT {wd : Wd} {F H : Hp} {cs : Cs} (R : Rl K wd F cs H) {v : V} {xs : List D} (r : Rp K wd (.tup xs) v) :
    ∃ a, v = .ref a ∧ ∀ wd' F' cs' H', wd.le wd' → Rl K wd' F' cs' H' → ∃ vs, SqT K H' a vs ∧ RpL K wd' xs vs := by
  obtain ⟨a, vs, e, s, q⟩ := r
  exact ⟨a, e, fun wd' F' cs' H' l R' => ⟨vs, SqT.of ((l.B.trans R'.b) _ _ s), RpL.mono l _ _ q⟩⟩
theorem getQ_cases {d : D} {cs : Cs} {xs : List D} (h : getQ d cs = some xs) : d = .tup xs ∨ getL d cs = some xs := by
  cases d with
  | tup ys => cases h; exact .inl rfl
  | lst ys => exact .inr h
  | ref n => exact .inr h
  | _ => cases h
/-- over a list or a tuple -/
def iSeqA (K : PySem.W.Frag) (tl : TE) : TI := fun σ H R => tl σ H fun x H1 => ∃ a, x = .ref a ∧ (((∃ xs, SqL K H1 a xs) ∧ R (Itl K a) H1) ∨ ((∃ xs, SqT K H1 a xs) ∧ R (Itt K a) H1))
theorem pi_seqA {tg l : Expr} {tl : TE} (hl : PE X l tl) : PI X tg l (iSeqA X.K tl) := by
  refine ⟨fun pins s σ H R I h => thn (hl.run pins s σ H _ I h) fun v s1 z => ?_⟩
  obtain ⟨x, H1, I1, rx, a, ex, q1⟩ := z
  subst ex
  obtain rfl : v = Value.ref a := rx
  have fresh : ∀ b ∈ [s1.heap.objs.size], FpOk X pins H1 b := fun b hb => by
    rw [List.mem_singleton.mp hb]
    exact I1.fpOk (Nat.le_refl _) (I1.hok.fresh (Nat.le_refl _))
  rcases q1 with ⟨⟨xs, hq⟩, q⟩ | ⟨⟨xs, hq⟩, q⟩
  · obtain ⟨its, rv, pl, hz⟩ := I1.list hq
    exact wpAny_pyIter_list pl.isList ⟨s1.heap.objs.size, [s1.heap.objs.size], _, _, H1, rfl, I1.kept (t' := s1.toks) fun b o e => Heap.get?_push_of_some _ e, turn_list a _, ⟨_, Heap.get?_push_size _ rfl, rfl, rfl⟩, fresh, q⟩
  · obtain ⟨its, rv, pl, hz⟩ := I1.tuple hq
    exact wpAny_pyIter_tuple (show s1.heap.IsTuple a its.toArray from pl) ⟨s1.heap.objs.size, [s1.heap.objs.size], _, _, H1, rfl, I1.kept (t' := s1.toks) fun b o e => Heap.get?_push_of_some _ e, turn_tuple a _, ⟨_, Heap.get?_push_size _ rfl, rfl, rfl⟩, fresh, q⟩
theorem itOk_list {wd : Wd} {F : Hp} {xs : List D} {grd : Cs → Prop} {a : Addr} (h : ∀ wd' F' cs' H', wd.le wd' → Rl X.K wd' F' cs' H' → grd cs' → ∃ vs, H' a = some (.lst vs) ∧ RpL X.K wd' xs vs) : ItOk X wd F xs grd (Itl X.K a) := by
  refine ⟨fun wd' F' cs H i d l R g hd => ?_, fun wd' F' cs H l R g => ?_⟩
  · obtain ⟨vs, hv, r⟩ := h wd' F' cs H l R g
    obtain ⟨v, h1, h2⟩ := r.get hd
    refine ⟨⟨vs, v, SqL.of hv, h1⟩, fun x H' ⟨e, y⟩ => ?_⟩
    subst e
    have := y vs (SqL.of hv)
    rw [h1] at this
    cases this
    exact ⟨wd', Wd.le.refl _, R, h2⟩
  · obtain ⟨vs, hv, r⟩ := h wd' F' cs H l R g
    exact ⟨vs, SqL.of hv, by rw [r.length]; exact Nat.le_refl _⟩
theorem itOk_tup {wd : Wd} {F : Hp} {xs : List D} {grd : Cs → Prop} {a : Addr} (h : ∀ wd' F' cs' H', wd.le wd' → Rl X.K wd' F' cs' H' → ∃ vs, SqT X.K H' a vs ∧ RpL X.K wd' xs vs) : ItOk X wd F xs grd (Itt X.K a) := by
  refine ⟨fun wd' F' cs H i d l R g hd => ?_, fun wd' F' cs H l R g => ?_⟩
  · obtain ⟨vs, hv, r⟩ := h wd' F' cs H l R
    obtain ⟨v, h1, h2⟩ := r.get hd
    refine ⟨⟨vs, v, hv, h1⟩, fun x H' ⟨e, y⟩ => ?_⟩
    subst e
    have := y vs hv
    rw [h1] at this
    cases this
    exact ⟨wd', Wd.le.refl _, R, h2⟩
  · obtain ⟨vs, hv, r⟩ := h wd' F' cs H l R
    exact ⟨vs, hv, by rw [r.length]; exact Nat.le_refl _⟩
theorem ji_seq {tg : Expr} (h : JE X W e ce) : JI X W tg e iSeq (.cons ce .nil) := by
  obtain ⟨te, p1, r1⟩ := h
  refine ⟨_, pi_seqA p1, fun wd F τ cs σ H R' PX Q R rs h q x => ?_⟩
  refine r1 wd F τ cs σ H _ PX _ R rs h (fun wd1 d c1 v H1 l1 R1 rv h1 => ?_) x
  have h1 : (match getQ d c1 with
    | some xs => R' xs (grdL d c1) c1
    | none => False) := h1
  cases eq : getQ d c1 with
  | none => rw [eq] at h1; exact h1.elim
  | some xs =>
    rw [eq] at h1
    rcases getQ_cases eq with ed | el
    · subst ed
      obtain ⟨a, ev, st⟩ := R1.staysT rv
      obtain ⟨vs, hv, _⟩ := st wd1 F c1 H1 (Wd.le.refl _) R1
      exact ⟨a, ev, .inr ⟨⟨vs, hv⟩, q wd1 xs _ c1 _ H1 l1 R1 (itOk_tup st) h1⟩⟩
    · obtain ⟨a, ev, st⟩ := R1.staysL rv el
      obtain ⟨vs, hv, _⟩ := st wd1 F c1 H1 (Wd.le.refl _) R1 (by unfold grdL; split <;> trivial)
      exact ⟨a, ev, .inl ⟨⟨vs, SqL.of hv⟩, q wd1 xs _ c1 _ H1 l1 R1 (itOk_list st) h1⟩⟩
theorem itOk_rng {wd : Wd} {F : Hp} (a b : Int) : ItOk X wd F (rgD a b) (fun _ => True) (Itr a (b - a).toNat) := by
  have hl : (rgD a b).length = (b - a).toNat := by unfold rgD; simp
  refine ⟨fun wd' F' cs H i d l R g hd => ?_, fun wd' F' cs H l R g => ?_⟩
  · have hi : i < (rgD a b).length := (List.getElem?_eq_some_iff.mp hd).1
    refine ⟨by show i < _; omega, fun x H' ⟨e, y⟩ => ?_⟩
    subst e y
    refine ⟨wd', Wd.le.refl _, R, ?_⟩
    unfold rgD at hd
    rw [List.getElem?_map, List.getElem?_range (by omega)] at hd
    cases hd
    rfl
  · show (b - a).toNat ≤ _
    rw [hl]
    exact Nat.le_refl _
theorem iRng1_inv {ds : List D} {cs : Cs} {R : List D → (Cs → Prop) → Prop} (h : iRng1 ds cs R) : ∃ j, ds = [.int j] ∧ -(2 ^ 62) ≤ j ∧ j < 2 ^ 62 ∧ R (rgD 0 j) (fun _ => True) := by
  unfold iRng1 at h
  split at h
  · exact ⟨_, rfl, h.1, h.2.1, h.2.2⟩
  · exact h.elim
theorem iZip_inv {ds : List D} {cs : Cs} {R : List D → (Cs → Prop) → Prop} (h : iZip ds cs R) : ∃ x y, ds = [x, y] ∧ ((∃ xs ys, x = .tup xs ∧ y = .tup ys ∧ R (zipD xs ys) (fun _ => True)) ∨ (∃ xs ys, getL x cs = some xs ∧ getL y cs = some ys ∧ R (zipD xs ys) (fun c => grdL x cs c ∧ grdL y cs c))) := by
  unfold iZip at h
  split at h
  · rename_i x y
    refine ⟨x, y, rfl, ?_⟩
    split at h
    · exact .inl ⟨_, _, rfl, rfl, h⟩
    · split at h
      · rename_i h1 h2
        exact .inr ⟨_, _, h1, h2, h⟩
      · exact h.elim
  · exact h.elim
theorem ji_rng1 {tg : Expr} (hg : Gl X "range") (hm : X.mg "range" = none) (h : JE X W a ca) (h1 : starEach [a] X.env = [(false, eval a X.env)] := by rfl) : JI X W tg (.Call (.Name "range" p) [a] [] pos) iRng1 (.cons ca .nil) := by
  obtain ⟨ta, p1, r1⟩ := ja_cons h ja_nil h1
  refine ⟨_, pi_range1 hg hm p1 h1, fun wd F τ cs σ H R' PX Q R rs h q x => ?_⟩
  refine r1 wd F τ cs σ H _ PX _ R rs h (fun wd1 ds c1 vs H1 l1 R1 rv h1 => ?_) x
  obtain ⟨j, ed, b1, b2, h2⟩ := iRng1_inv h1
  subst ed
  obtain ⟨v, e, rv⟩ := rv.one
  refine ⟨j, by rw [e, show v = _ from rv], b1, b2, ?_⟩
  have z := q wd1 (rgD 0 j) _ c1 (Itr 0 (j - 0).toNat) H1 l1 R1 (itOk_rng 0 j) h2
  rw [Int.sub_zero] at z
  exact z
theorem zipD_get : ∀ {xs ys : List D} {i : Nat} {d : D}, (zipD xs ys)[i]? = some d → ∃ x y, xs[i]? = some x ∧ ys[i]? = some y ∧ d = .tup [x, y]
  | [], _, _, _, h => by simp [zipD] at h
  | _ :: _, [], _, _, h => by simp [zipD] at h
  | x :: xs, y :: ys, 0, d, h => by
    simp [zipD] at h
    exact ⟨x, y, rfl, rfl, h.symm⟩
  | x :: xs, y :: ys, i + 1, d, h => by
    obtain ⟨x', y', h1, h2, h3⟩ := zipD_get (i := i) (d := d) (by simpa [zipD] using h)
    exact ⟨x', y', by simpa using h1, by simpa using h2, h3⟩
theorem zipD_len : ∀ (xs ys : List D), (zipD xs ys).length = min xs.length ys.length
  | [], _ => by simp [zipD]
  | _ :: _, [] => by simp [zipD]
  | x :: xs, y :: ys => by simp [zipD, zipD_len xs ys]
theorem ji_zip {tpos : Pos} {elts : List Expr} {kk : Nat} (hg : Gl X "zip") (hm : X.mg "zip" = none) (ha : JE X W a ca) (hb : JE X W b cb)
    (h1 : starEach [a, b] X.env = (false, eval a X.env) :: starEach [b] X.env := by rfl) (h2 : starEach [b] X.env = (false, eval b X.env) :: starEach [] X.env := by rfl) (hpl : (backTo pos (starEach [b] X.env)).any (·.1) = false := by rfl) :
    JI X W (.Tuple elts kk tpos) (.Call (.Name "zip" p) [a, b] [] pos) iZip (.cons ca (.cons cb .nil)) := by
  obtain ⟨ta, p1, r1⟩ := ja_cons ha (ja_cons hb ja_nil h2) h1
  refine ⟨_, RZ.pi_zipA hg hm p1 h1 hpl, fun wd F τ cs σ H R' PX Q R rs h q x => ?_⟩
  refine r1 wd F τ cs σ H _ PX _ R rs h (fun wd1 ds c1 vs H1 l1 R1 rv h1 => ?_) x
  obtain ⟨dx, dy, ed, h3⟩ := iZip_inv h1
  subst ed
  obtain ⟨v, w, e, rv1, rv2⟩ := rv.two
  rcases h3 with ⟨xs, ys, e1, e2, h3⟩ | ⟨xs, ys, ex, ey, h3⟩
  · subst e1 e2
    obtain ⟨a1, ea, sa⟩ := R1.staysT rv1
    obtain ⟨b1, eb, sb⟩ := R1.staysT rv2
    obtain ⟨ws, hw, _⟩ := sa wd1 F c1 H1 (Wd.le.refl _) R1
    obtain ⟨zs, hz, _⟩ := sb wd1 F c1 H1 (Wd.le.refl _) R1
    refine ⟨a1, b1, ws, zs, by rw [e, ea, eb], .inr ⟨hw, hz, q wd1 _ _ c1 _ H1 l1 R1 ⟨fun wd' F' cs' H' i d l R g hd => ?_, fun wd' F' cs' H' l R g => ?_⟩ h3⟩⟩
    · obtain ⟨x, y, hx, hy, ed⟩ := zipD_get hd
      obtain ⟨ws, hw, rw'⟩ := sa wd' F' cs' H' l R
      obtain ⟨zs, hz, rz⟩ := sb wd' F' cs' H' l R
      obtain ⟨u, hu, ru⟩ := rw'.get hx
      obtain ⟨t, ht, rt⟩ := rz.get hy
      refine ⟨⟨ws, zs, u, t, hw, hz, hu, ht⟩, fun v' H2 ⟨T, x', y', ev, hT, eH, f1, f2⟩ => ?_⟩
      have e1 := f1 ws hw
      have e2 := f2 zs hz
      rw [hu] at e1
      rw [ht] at e2
      cases e1
      cases e2
      subst ev eH ed
      obtain ⟨wd'', l2, R2, r2⟩ := R.tup (ds := [x, y]) hT ⟨u, [t], rfl, ru, t, [], rfl, rt, rfl⟩
      exact ⟨wd'', l2, R2, r2⟩
    · obtain ⟨ws, hw, rw'⟩ := sa wd' F' cs' H' l R
      obtain ⟨zs, hz, rz⟩ := sb wd' F' cs' H' l R
      refine ⟨ws, zs, hw, hz, ?_⟩
      rw [zipD_len, rw'.length, rz.length]
      omega
  · obtain ⟨a1, ea, sa⟩ := R1.staysL rv1 ex
    obtain ⟨b1, eb, sb⟩ := R1.staysL rv2 ey
    have g0 : ∀ d : D, grdL d c1 c1 := fun d => by unfold grdL; split <;> trivial
    obtain ⟨ws, hw, _⟩ := sa wd1 F c1 H1 (Wd.le.refl _) R1 (g0 _)
    obtain ⟨zs, hz, _⟩ := sb wd1 F c1 H1 (Wd.le.refl _) R1 (g0 _)
    refine ⟨a1, b1, ws, zs, by rw [e, ea, eb], .inl ⟨SqL.of hw, SqL.of hz, q wd1 _ _ c1 _ H1 l1 R1 ⟨fun wd' F' cs' H' i d l R g hd => ?_, fun wd' F' cs' H' l R g => ?_⟩ h3⟩⟩
    · obtain ⟨x, y, hx, hy, ed⟩ := zipD_get hd
      obtain ⟨ws, hw, rw'⟩ := sa wd' F' cs' H' l R g.1
      obtain ⟨zs, hz, rz⟩ := sb wd' F' cs' H' l R g.2
      obtain ⟨u, hu, ru⟩ := rw'.get hx
      obtain ⟨t, ht, rt⟩ := rz.get hy
      refine ⟨⟨ws, zs, u, t, SqL.of hw, SqL.of hz, hu, ht⟩, fun v' H2 ⟨T, x', y', ev, hT, eH, f1, f2⟩ => ?_⟩
      have e1 := f1 ws (SqL.of hw)
      have e2 := f2 zs (SqL.of hz)
      rw [hu] at e1
      rw [ht] at e2
      cases e1
      cases e2
      subst ev eH ed
      obtain ⟨wd'', l2, R2, r2⟩ := R.tup (ds := [x, y]) hT ⟨u, [t], rfl, ru, t, [], rfl, rt, rfl⟩
      exact ⟨wd'', l2, R2, r2⟩
    · obtain ⟨ws, hw, rw'⟩ := sa wd' F' cs' H' l R g.1
      obtain ⟨zs, hz, rz⟩ := sb wd' F' cs' H' l R g.2
      refine ⟨ws, zs, SqL.of hw, SqL.of hz, ?_⟩
      rw [zipD_len, rw'.length, rz.length]
      omega
end
end G

/-! GComp: list comprehensions. -/
namespace G
open PySem PySem.Spec L2
open Evl (Ex)
section
variable {K : PySem.W.Frag} {wd : Wd} {F H : Hp} {cs : Cs} {q : Addr}
theorem fe_upd (fe : ∀ a o, F a = some o → NT o) (ys : List V) : ∀ a o, upd F q (.lst ys) a = some o → NT o := fun a o e => by
  by_cases h : a = q
  · subst h
    rw [upd_same] at e
    rw [← Option.some.inj e]
    exact NT.lst
  · rw [upd_ne h] at e
    exact fe a o e
theorem fe_back {o : HO} (fe : ∀ a u, upd F q o a = some u → NT u) (fn : F q = none) : ∀ a u, F a = some u → NT u := fun a u e => fe a u ((upd_ne (ne_of_none e fn)).trans e)
theorem Rl.fNew (R : Rl K wd F cs H) (hp : H q = none) (ys : List V) : Rl K wd (upd F q (.lst ys)) cs (upd H q (.lst ys)) := by
  have bn := R.bnone hp
  refine ⟨fun a u e => ?_, fun a u e => ?_, fun a u e => ?_, R.inj, fun n u e => ?_, fun n a e => ?_, R.top, fun n a e => ?_, fe_upd R.fe ys, R.tabNew hp (Ex.refl _), R.bt⟩
  · exact (upd_ne (ne_of_none e bn)).trans (R.b a u e)
  · by_cases h : a = q
    · subst h
      rw [upd_same] at e ⊢
      exact e
    · rw [upd_ne h] at e ⊢
      exact R.f a u e
  · exact (upd_ne (ne_of_none e bn)).trans (R.bf a u e)
  · obtain ⟨a, v, e1, e2, e3, e4, e5⟩ := R.cell n u e
    have ne : a ≠ q := ne_of_none e4 hp
    exact ⟨a, v, e1, e2, (upd_ne ne).trans e3, (upd_ne ne).trans e4, e5⟩
  · obtain ⟨u, hu, hn⟩ := R.ran n a e
    exact ⟨u, (upd_ne (ne_of_none hu hp)).trans hu, hn⟩
  · obtain ⟨u, hu, _⟩ := R.ran n a e
    exact (upd_ne (ne_of_none hu hp)).trans (R.rf n a e)
theorem Rl.fPut {o : HO} (R : Rl K wd (upd F q o) cs H) (ys : List V) : Rl K wd (upd F q (.lst ys)) cs (upd H q (.lst ys)) := by
  have fq : upd F q o q = some o := upd_same
  have fe : ∀ a u, upd F q (.lst ys) a = some u → NT u := fun a u e => by
    by_cases h : a = q
    · subst h
      rw [upd_same] at e
      rw [← Option.some.inj e]
      exact NT.lst
    · rw [upd_ne h] at e
      exact R.fe a u ((upd_ne h).trans e)
  have bn : wd.B q = none := by
    cases e : wd.B q with
    | none => rfl
    | some u =>
      have := R.bf q u e
      rw [fq] at this
      cases this
  refine ⟨fun a u e => ?_, fun a u e => ?_, fun a u e => ?_, R.inj, fun n u e => ?_, fun n a e => ?_, R.top, fun n a e => ?_, fe, fun p hp => ?_, R.bt⟩
  · exact (upd_ne (ne_of_none e bn)).trans (R.b a u e)
  · by_cases h : a = q
    · subst h
      rw [upd_same] at e ⊢
      exact e
    · rw [upd_ne h] at e ⊢
      exact R.f a u ((upd_ne h).trans e)
  · have h : a ≠ q := ne_of_none e bn
    exact (upd_ne h).trans ((upd_ne h).symm.trans (R.bf a u e))
  · obtain ⟨a, v, e1, e2, e3, e4, e5⟩ := R.cell n u e
    have ne : a ≠ q := fun z => by
      subst z
      rw [fq] at e3
      cases e3
    exact ⟨a, v, e1, e2, (upd_ne ne).trans ((upd_ne ne).symm.trans e3), (upd_ne ne).trans e4, e5⟩
  · obtain ⟨u, hu, hn⟩ := R.ran n a e
    by_cases h : a = q
    · subst h
      exact ⟨_, upd_same, fun z y => by cases y⟩
    · exact ⟨u, (upd_ne h).trans hu, hn⟩
  · have ne : a ≠ q := fun z => by
      subst z
      have := R.rf n _ e
      rw [fq] at this
      cases this
    exact (upd_ne ne).trans ((upd_ne ne).symm.trans (R.rf n a e))
  · obtain ⟨ps, h1, h2, h3⟩ := R.tab p hp
    have ne : q ≠ p.1 := R.notbl h1 (R.f q o fq) (R.fe q o fq).1
    exact ⟨ps, (upd_ne (Ne.symm ne)).trans h1, h2, h3⟩
theorem Rl.fTree {ds : List D} {vs : List V} (R : Rl K wd (upd F q (.lst vs)) cs H) (fn : F q = none) (r : RpL K wd ds vs) : ∃ wd', wd.le wd' ∧ Rl K wd' F cs H ∧ Rp K wd' (.lst ds) (.ref q) := by
  have fq : upd F q (.lst vs) q = some (.lst vs) := upd_same
  have hq : H q = some (.lst vs) := R.f q _ fq
  have bn : wd.B q = none := by
    cases e : wd.B q with
    | none => rfl
    | some u =>
      have := R.bf q u e
      rw [fq] at this
      cases this
  have le : wd.le ⟨upd wd.B q (.lst vs), wd.r, wd.k⟩ := ⟨Ex.new bn, fun _ _ h => h⟩
  refine ⟨_, le, ⟨fun a u e => ?_, fun a u e => ?_, fun a u e => ?_, R.inj, fun n u e => ?_, R.ran, R.top, fun n a e => ?_, fe_back R.fe fn, fun p hp => let ⟨ps, h1, h2, h3⟩ := R.tab p hp; ⟨ps, h1, h2, fun pos cv e => let ⟨c, e1, e2⟩ := h3 pos cv e; ⟨c, e1, le.B _ _ e2⟩⟩, R.btNew (fun q z => by cases z)⟩, q, vs, rfl, upd_same, RpL.mono le _ _ r⟩
  · have e : upd wd.B q (.lst vs) a = some u := e
    by_cases h : a = q
    · subst h
      rw [upd_same] at e
      rw [← e]
      exact hq
    · rw [upd_ne h] at e
      exact R.b a u e
  · have h : a ≠ q := ne_of_none e fn
    exact R.f a u ((upd_ne h).trans e)
  · have e : upd wd.B q (.lst vs) a = some u := e
    by_cases h : a = q
    · subst h
      exact fn
    · rw [upd_ne h] at e
      exact (upd_ne h).symm.trans (R.bf a u e)
  · obtain ⟨a, v, e1, e2, e3, e4, e5⟩ := R.cell n u e
    have ne : a ≠ q := fun z => by
      subst z
      rw [fq] at e3
      cases e3
    exact ⟨a, v, e1, (upd_ne ne).trans e2, (upd_ne ne).symm.trans e3, e4, e5.mono le⟩
  · by_cases h : a = q
    · rw [h]
      exact fn
    · exact (upd_ne h).symm.trans (R.rf n a e)
theorem Rl.fCell {ds : List D} {vs : List V} (R : Rl K wd (upd F q (.lst vs)) cs H) (fn : F q = none) (r : RpL K wd ds vs) : ∃ n wd', cs n = none ∧ wd.le wd' ∧ Rl K wd' F (put cs n (.lst ds)) H ∧ Rp K wd' (.ref n) (.ref q) := by
  have fq : upd F q (.lst vs) q = some (.lst vs) := upd_same
  have hq : H q = some (.lst vs) := R.f q _ fq
  have bn : wd.B q = none := by
    cases e : wd.B q with
    | none => rfl
    | some u =>
      have := R.bf q u e
      rw [fq] at this
      cases this
  have nr : ∀ n, wd.r n ≠ some q := fun n z => by
    have := R.rf n q z
    rw [fq] at this
    cases this
  have rk : wd.r wd.k = none := R.top wd.k (Nat.le_refl _)
  have le : wd.le ⟨wd.B, fun m => if m = wd.k then some q else wd.r m, wd.k + 1⟩ := ⟨Ex.refl _, fun m b e => by
    show (if m = wd.k then some q else wd.r m) = some b
    by_cases hm : m = wd.k
    · rw [hm, rk] at e
      cases e
    · rw [if_neg hm]
      exact e⟩
  have ck : cs wd.k = none := by
    cases z : cs wd.k with
    | none => rfl
    | some o =>
      obtain ⟨a, v, e1, _⟩ := R.cell _ _ z
      rw [rk] at e1
      cases e1
  refine ⟨wd.k, _, ck, le, ⟨R.b, fun a u e => R.f a u ((upd_ne (ne_of_none e fn)).trans e), fun a u e => ?_, fun n m a e1 e2 => ?_, fun m w e => ?_, fun m b e => ?_, fun m hm => ?_, fun m b e => ?_, fe_back R.fe fn, R.tab, R.bt⟩, q, if_pos rfl, rfl⟩
  · have h : a ≠ q := ne_of_none e bn
    exact (upd_ne h).symm.trans (R.bf a u e)
  · have e1 : (if n = wd.k then some q else wd.r n) = some a := e1
    have e2 : (if m = wd.k then some q else wd.r m) = some a := e2
    by_cases hn : n = wd.k
    · by_cases hm : m = wd.k
      · rw [hn, hm]
      · rw [if_pos hn] at e1
        rw [if_neg hm] at e2
        cases e1
        exact absurd e2 (nr m)
    · by_cases hm : m = wd.k
      · rw [if_pos hm] at e2
        rw [if_neg hn] at e1
        cases e2
        exact absurd e1 (nr n)
      · rw [if_neg hn] at e1
        rw [if_neg hm] at e2
        exact R.inj n m a e1 e2
  · by_cases hm : m = wd.k
    · subst hm
      have ew : Ob.lst ds = w := by
        unfold put at e
        rw [if_pos rfl] at e
        exact Option.some.inj e
      subst ew
      exact ⟨q, .lst vs, if_pos rfl, bn, fn, hq, vs, rfl, RpL.mono le _ _ r⟩
    · unfold put at e
      rw [if_neg hm] at e
      obtain ⟨b, x, f1, f2, f3, f4, f5⟩ := R.cell m w e
      have ne : b ≠ q := fun z => nr m (by rw [← z]; exact f1)
      exact ⟨b, x, (if_neg hm).trans f1, f2, (upd_ne ne).symm.trans f3, f4, f5.mono le⟩
  · have e : (if m = wd.k then some q else wd.r m) = some b := e
    by_cases hm : m = wd.k
    · rw [if_pos hm] at e
      cases e
      exact ⟨_, hq, fun z y => by cases y⟩
    · rw [if_neg hm] at e
      exact R.ran m b e
  · have hm : wd.k + 1 ≤ m := hm
    show (if m = wd.k then some q else wd.r m) = none
    rw [if_neg (by omega)]
    exact R.top m (by omega)
  · have e : (if m = wd.k then some q else wd.r m) = some b := e
    by_cases hm : m = wd.k
    · rw [if_pos hm] at e
      cases e
      exact fn
    · rw [if_neg hm] at e
      have ne : b ≠ q := fun z => nr m (by rw [← z]; exact e)
      exact (upd_ne ne).symm.trans (R.rf m b e)
end
theorem wipeG_some {τ : Sl} : ∀ {own : List Nat} {i : Nat} {d : D}, getV (wipe τ own) i = some d → getV τ i = some d ∧ i ∉ own
  | [], i, d, h => ⟨h, by simp⟩
  | j :: own, i, d, h => by
    have h : getV ((wipe τ own).set j none) i = some d := h
    rw [getV_eq] at h
    by_cases e : i = j
    · subst e
      by_cases hl : i < (wipe τ own).length
      · rw [List.getElem?_set_self hl] at h
        cases h
      · rw [List.getElem?_eq_none (by simp; omega)] at h
        cases h
    · rw [List.getElem?_set_ne (Ne.symm e), ← getV_eq] at h
      obtain ⟨h1, h2⟩ := wipeG_some h
      exact ⟨h1, by simp [e, h2]⟩
theorem wipeG_len (τ : Sl) : ∀ own : List Nat, (wipe τ own).length = τ.length
  | [] => rfl
  | j :: own => by
    show ((wipe τ own).set j none).length = _
    rw [List.length_set, wipeG_len τ own]
theorem RS.wipe {K : PySem.W.Frag} {wd : Wd} {τ : Sl} {σ : St} (h : RS K wd τ σ) (own : List Nat) : RS K wd (G.wipe τ own) (L2.wipe σ own) := by
  refine ⟨by rw [wipeG_len, L2.wipe_length]; exact h.len, fun i d e => ?_⟩
  obtain ⟨e1, e2⟩ := wipeG_some e
  obtain ⟨v, hv, r⟩ := h.at_ i d e1
  exact ⟨v, by rw [L2.wipe_out e2]; exact hv, r⟩
theorem wipe_idem (σ : St) (own : List Nat) : L2.wipe (L2.wipe σ own) own = L2.wipe σ own := by
  apply List.ext_getElem?
  intro k
  by_cases hk : k ∈ own
  · rw [wipe_in hk, wipe_in hk, L2.wipe_length]
  · rw [L2.wipe_out hk]
def W0 : WX := fun _ _ _ _ => False
def JTs (X : Cx) (W : WX) (ifs : List Expr) (c : E) : Prop := ∃ tt, PTs X ifs tt ∧ RefT X W tt c
section
variable {X : Cx} {W : WX} {pos : Pos} {a b c e : Expr} {ca cb cc ce : E} {p : Pos}
theorem jts_nil : JTs X W [] (.c (.bl true)) := ⟨_, pts_nil, fun wd F τ cs σ H P PX Q R rs h q x => by
  obtain ⟨k, e, hq⟩ := q wd (.bl true) cs H (Wd.le.refl _) R h
  cases e
  exact hq⟩
abbrev Cx.bk (X : Cx) (scope : Scope) (s : Shared) (H : Hp) (C : Addr) (cl : List (Str × Addr)) (fp : List Addr) : Cx := X.blk s H scope (compEnvC scope cl C X.env) fp
theorem comp_core (m : Bool) {elt tg iter : Expr} {ifs : List Expr} {scope : Scope} {own : List (Str × Nat)} {isp : ISpec} {as : Es} {pt : Pat} (hc : X.calm = true) (hN : X.N.Nodup) (hi : JI X W tg iter isp as) (ok : BlkOk X.N X.env.scope scope own)
    (hg : ∀ (s : Shared) (H : Hp) (C : Addr) (cl : List (Str × Addr)) (fp : List Addr), JG (X.blk s H scope (compEnvC scope cl C X.env) fp) tg pt (own.map (·.2)))
    (ht : ∀ (s : Shared) (H : Hp) (C : Addr) (cl : List (Str × Addr)) (fp : List Addr), JTs (X.blk s H scope (compEnvC scope cl C X.env) fp) W0 ifs cc)
    (he : ∀ (s : Shared) (H : Hp) (C : Addr) (cl : List (Str × Addr)) (fp : List Addr), JE (X.blk s H scope (compEnvC scope cl C X.env) fp) W0 elt ce) (hs : ∀ x, foldedSetIterable iter X.env x = pure x := by intro _; rfl) :
    ∃ te, PE X (.ListComp elt [⟨tg, iter, ifs, 0⟩] scope pos) te ∧ RefE X W te (.comp m (own.map (·.2)) pt isp as cc ce) ∧
      ∀ (i : Nat) (y : Str) (py spos : Pos), X.N[i]? = some y → X.env.scope.names.lookup y = some .local → swapsWith (.ListComp elt [⟨tg, iter, ifs, 0⟩] scope pos) (some (.Name y py)) spos.line X.env = pure true →
        PS X (.Assign [.Name y py] (.ListComp elt [⟨tg, iter, ifs, 0⟩] scope pos) spos) (tAsg te (gName i)) := by
  obtain ⟨wi, p0, r0⟩ := hi
  let uG : TG := fun v σ H Q => ∀ (s : Shared) (H0 : Hp) (C : Addr) (cl : List (Str × Addr)) (fp : List Addr) (g : TG), PG (X.blk s H0 scope (compEnvC scope cl C X.env) fp) tg g → RefG (X.blk s H0 scope (compEnvC scope cl C X.env) fp) g pt (own.map (·.2)) → g v σ H Q
  let uT : TT := fun σ H Q => ∀ (s : Shared) (H0 : Hp) (C : Addr) (cl : List (Str × Addr)) (fp : List Addr) (t : TT), PTs (X.blk s H0 scope (compEnvC scope cl C X.env) fp) ifs t → RefT (X.blk s H0 scope (compEnvC scope cl C X.env) fp) W0 t cc → t σ H Q
  let uE : TE := fun σ H Q => ∀ (s : Shared) (H0 : Hp) (C : Addr) (cl : List (Str × Addr)) (fp : List Addr) (t : TE), PE (X.blk s H0 scope (compEnvC scope cl C X.env) fp) elt t → RefE (X.blk s H0 scope (compEnvC scope cl C X.env) fp) W0 t ce → t σ H Q
  have pG : ∀ (s : Shared) (H : Hp) (C : Addr) (cl : List (Str × Addr)) (fp : List Addr), PG (X.blk s H scope (compEnvC scope cl C X.env) fp) tg uG := fun s H0 C cl fp => by
    obtain ⟨g, p1, r1⟩ := hg s H0 C cl fp
    exact ⟨fun pins s' σ H v u Q I rv h => p1.run pins s' σ H v u Q I rv (h s H0 C cl fp g p1 r1)⟩
  have pT : ∀ (s : Shared) (H : Hp) (C : Addr) (cl : List (Str × Addr)) (fp : List Addr), PTs (X.blk s H scope (compEnvC scope cl C X.env) fp) ifs uT := fun s H0 C cl fp => by
    obtain ⟨g, p1, r1⟩ := ht s H0 C cl fp
    exact ⟨fun pins s' σ H Q I h => p1.run pins s' σ H Q I (h s H0 C cl fp g p1 r1)⟩
  have pE : ∀ (s : Shared) (H : Hp) (C : Addr) (cl : List (Str × Addr)) (fp : List Addr), PE (X.blk s H scope (compEnvC scope cl C X.env) fp) elt uE := fun s H0 C cl fp => by
    obtain ⟨g, p1, r1⟩ := he s H0 C cl fp
    exact ⟨fun pins s' σ H Q I h => p1.run pins s' σ H Q I (h s H0 C cl fp g p1 r1)⟩
  refine ⟨_, pe_lc hc hN p0 ok pG pT pE hs, fun wd F τ cs σ H P PX Q R rs h q x => ?_, fun i y py spos hy hyl hsw => ps_setLc hc hN hy hyl hsw p0 ok pG pT pE hs⟩
  have h : wpEs as τ cs (fun ds c1 => isp ds c1 fun items grd =>
      compL pt grd (G.wipe τ (own.map (·.2))) (fun σ1 c2 K => wpE cc σ1 c2 K (fun _ _ => False)) (fun σ1 c2 K => wpE ce σ1 c2 K (fun _ _ => False))
        (fun ys c3 => if m = true then ∀ n, c3 n = none → P (.ref n) (put c3 n (.lst ys)) else P (.lst ys) c3) items [] c1) PX := h
  refine r0 wd F τ cs σ H (fun items grd c1 => compL pt grd (G.wipe τ (own.map (·.2))) (fun σ1 c2 K => wpE cc σ1 c2 K (fun _ _ => False)) (fun σ1 c2 K => wpE ce σ1 c2 K (fun _ _ => False))
        (fun ys c3 => if m = true then ∀ n, c3 n = none → P (.ref n) (put c3 n (.lst ys)) else P (.lst ys) c3) items [] c1) PX _ R rs h (fun wd1 items grd c1 J H1 l1 R1 it h1 => ?_) x
  intro Dd hD
  have fn : F Dd = none := Evl.fresh_back R1.f hD
  refine ⟨fun i mm H' => ∃ wd' cs' acc vs, wd1.le wd' ∧ Rl X.K wd' (upd F Dd (.lst vs)) cs' H' ∧ RpL X.K wd' acc vs ∧ mm = items.length - i ∧ i ≤ items.length ∧
    compL pt grd (G.wipe τ (own.map (·.2))) (fun σ1 c2 K => wpE cc σ1 c2 K (fun _ _ => False)) (fun σ1 c2 K => wpE ce σ1 c2 K (fun _ _ => False))
        (fun ys c3 => if m = true then ∀ n, c3 n = none → P (.ref n) (put c3 n (.lst ys)) else P (.lst ys) c3) (items.drop i) acc cs', ⟨items.length, wd1, c1, [], [], Wd.le.refl _, R1.fNew hD _, rfl, by simp, Nat.zero_le _, h1⟩, ?_⟩
  rintro i mm H' ⟨wd', cs', acc, vs, l', R', ra, em, hle, h'⟩
  by_cases hi : i < items.length
  · have ed : items.drop i = items[i] :: items.drop (i + 1) := List.drop_eq_getElem_cons hi
    rw [ed] at h'
    obtain ⟨hgd, h'⟩ := h'
    obtain ⟨g0, gy⟩ := it.go wd' _ cs' H' i items[i] l' R' hgd (List.getElem?_eq_getElem hi)
    cases eb : bindP pt [items[i]] (G.wipe τ (own.map (·.2))) with
    | none => rw [eb] at h'; exact h'.elim
    | some τ1 =>
      rw [eb] at h'
      refine .inr ⟨g0, fun H2 => ∃ wd' cs' acc vs, wd1.le wd' ∧ Rl X.K wd' (upd F Dd (.lst vs)) cs' H2 ∧ RpL X.K wd' acc vs ∧
        compL pt grd (G.wipe τ (own.map (·.2))) (fun σ1 c2 K => wpE cc σ1 c2 K (fun _ _ => False)) (fun σ1 c2 K => wpE ce σ1 c2 K (fun _ _ => False))
          (fun ys c3 => if m = true then ∀ n, c3 n = none → P (.ref n) (put c3 n (.lst ys)) else P (.lst ys) c3) (items.drop (i + 1)) acc cs', fun H2 ⟨wd2, c2, acc2, vs2, l2, R2, ra2, h2⟩ => ⟨items.length - (i + 1), by omega, wd2, c2, acc2, vs2, l2, R2, ra2, rfl, hi, h2⟩, fun xv H2 y => ?_⟩
      obtain ⟨wd2, l2, R2, rv⟩ := gy xv H2 y
      have rsw : RS X.K wd2 (G.wipe τ (own.map (·.2))) (L2.wipe σ (own.map (·.2))) := ((rs.mono (l1.trans (l'.trans l2))).wipe _)
      intro s0 H0 C cl fp g p1 r1
      refine r1 wd2 _ _ cs' _ H2 items[i] xv τ1 _ R2 rsw rv eb fun σ3 rs3 w3 => ?_
      refine ⟨by rw [w3, wipe_idem], ?_⟩
      intro s0 H0 C cl fp t p2 r2
      have xz : ∀ {wd F σ}, XOk X W0 wd F σ (fun _ _ => False) := fun {wd F σ} _ _ _ _ _ _ _ _ _ z => z
      refine r2 wd2 _ τ1 cs' σ3 H2 _ (fun _ _ => False) _ R2 rs3 h' (fun wd3 d3 c3 H3 l3 R3 h3 => ?_) xz
      rcases h3 with ⟨e3, h3⟩ | ⟨e3, h3⟩
      · refine ⟨true, e3, ?_⟩
        rw [if_pos rfl]
        intro s0 H0 C cl fp t p4 r4
        refine r4 wd3 _ τ1 c3 σ3 H3 _ (fun _ _ => False) _ R3 (rs3.mono l3) h3 (fun wd4 d4 c4 v4 H4 l4 R4 rv4 h4 => ?_) xz
        have hf : H4 Dd = some (.lst vs) := R4.f Dd _ upd_same
        have ra4 := RpL.mono (l2.trans (l3.trans l4)) _ _ ra
        refine ⟨vs, hf, by rw [ra.length, sizeL]; exact h4.1, wd4, c4, acc ++ [d4], vs ++ [v4], l'.trans (l2.trans (l3.trans l4)), ?_, ra4.append ⟨v4, [], rfl, rv4, rfl⟩, h4.2⟩
        exact R4.fPut (vs ++ [v4])
      · refine ⟨false, e3, ?_⟩
        rw [if_neg Bool.false_ne_true]
        exact ⟨wd3, c3, acc, vs, l'.trans (l2.trans l3), R3, RpL.mono (l2.trans l3) _ _ ra, h3⟩
  · have ei : i = items.length := by omega
    subst ei
    rw [List.drop_length] at h'
    refine .inl ⟨it.stop wd' _ cs' H' l' R' h'.1, ?_⟩
    have h2 := h'.2
    cases m with
    | true =>
      rw [if_pos rfl] at h2
      obtain ⟨n, wd2, hn, l2, R2, r2⟩ := R'.fCell fn ra
      exact q wd2 _ _ _ _ (l1.trans (l'.trans l2)) R2 r2 (h2 n hn)
    | false =>
      rw [if_neg Bool.false_ne_true] at h2
      obtain ⟨wd2, l2, R2, r2⟩ := R'.fTree fn ra
      exact q wd2 _ _ _ _ (l1.trans (l'.trans l2)) R2 r2 h2
theorem j_comp (m : Bool) {elt tg iter : Expr} {ifs : List Expr} {scope : Scope} {own : List (Str × Nat)} {isp : ISpec} {as : Es} {pt : Pat} (hc : X.calm = true) (hN : X.N.Nodup) (hi : JI X W tg iter isp as) (ok : BlkOk X.N X.env.scope scope own)
    (hg : ∀ (s : Shared) (H : Hp) (C : Addr) (cl : List (Str × Addr)) (fp : List Addr), JG (X.blk s H scope (compEnvC scope cl C X.env) fp) tg pt (own.map (·.2)))
    (ht : ∀ (s : Shared) (H : Hp) (C : Addr) (cl : List (Str × Addr)) (fp : List Addr), JTs (X.blk s H scope (compEnvC scope cl C X.env) fp) W0 ifs cc)
    (he : ∀ (s : Shared) (H : Hp) (C : Addr) (cl : List (Str × Addr)) (fp : List Addr), JE (X.blk s H scope (compEnvC scope cl C X.env) fp) W0 elt ce) (hs : ∀ x, foldedSetIterable iter X.env x = pure x := by intro _; rfl) :
    JE X W (.ListComp elt [⟨tg, iter, ifs, 0⟩] scope pos) (.comp m (own.map (·.2)) pt isp as cc ce) := by
  obtain ⟨te, p1, r1, _⟩ := comp_core (pos := pos) m hc hN hi ok hg ht he hs
  exact ⟨te, p1, r1⟩
theorem js_setc (i : Nat) (m : Bool) {y : Str} {py spos : Pos} {elt tg iter : Expr} {ifs : List Expr} {scope : Scope} {own : List (Str × Nat)} {isp : ISpec} {as : Es} {pt : Pat} (hc : X.calm = true) (hN : X.N.Nodup) (hy : X.N[i]? = some y) (hyl : X.env.scope.names.lookup y = some .local)
    (hsw : swapsWith (.ListComp elt [⟨tg, iter, ifs, 0⟩] scope pos) (some (.Name y py)) spos.line X.env = pure true) (hi : JI X W tg iter isp as) (ok : BlkOk X.N X.env.scope scope own)
    (hg : ∀ (s : Shared) (H : Hp) (C : Addr) (cl : List (Str × Addr)) (fp : List Addr), JG (X.blk s H scope (compEnvC scope cl C X.env) fp) tg pt (own.map (·.2)))
    (ht : ∀ (s : Shared) (H : Hp) (C : Addr) (cl : List (Str × Addr)) (fp : List Addr), JTs (X.blk s H scope (compEnvC scope cl C X.env) fp) W0 ifs cc)
    (he : ∀ (s : Shared) (H : Hp) (C : Addr) (cl : List (Str × Addr)) (fp : List Addr), JE (X.blk s H scope (compEnvC scope cl C X.env) fp) W0 elt ce) (hs : ∀ x, foldedSetIterable iter X.env x = pure x := by intro _; rfl) :
    JS X W (.Assign [.Name y py] (.ListComp elt [⟨tg, iter, ifs, 0⟩] scope pos) spos) (.asg (.nm i) (.comp m (own.map (·.2)) pt isp as cc ce)) := by
  obtain ⟨te, p1, r1, ps⟩ := comp_core (pos := pos) m hc hN hi ok hg ht he hs
  refine ⟨_, ps i y py spos hy hyl hsw, fun wd F τ cs σ H P Q R rs h q => ?_⟩
  exact r1 wd F τ cs σ H _ _ _ R rs h (fun wd1 d c1 v H1 l1 R1 rv h1 => q.nx wd1 _ c1 _ H1 l1 R1 ((rs.mono l1).set i rv) h1) (q.xok rs)
end
end G

/-! GFn: calls of defs; a def keeps its core promise. -/
namespace G
open PySem PySem.Spec L2
open Evl (Ex)
def lift (K : PySem.W.Frag) (mg : Str → Option Value) (sp : Spec) : Sp := fun vs H Q E => ∃ wd F cs ds P PX, Rl K wd F cs H ∧ RpL K wd ds vs ∧ sp ds cs P PX ∧ QOk K wd F P Q ∧
  ∀ wd' x cs' cls dd H', wd.le wd' → Rl K wd' F cs' H' → RpX K mg wd' x cls dd → PX x cs' → E cls dd H'
/-- a def by its name: level, number of parameters, promise -/
structure Fn (P : Program) (w : World) (K : PySem.W.Frag) (mg : Str → Option Value) (base : Heap) (x : Str) (k n : Nat) (sp : Spec) : Prop where
  ex : ∃ f fd ps, ps.length = n ∧ mg x = some (.ref f) ∧ FnOk P w K mg base (L2N.CX P w) k f fd ps (lift K mg sp) ∧ PySem.W.keepIn K (.ref f) = true ∧ Binds K fd ps []
theorem Fn.mono {P : Program} {w : World} {K : PySem.W.Frag} {mg : Str → Option Value} {base : Heap} {x : Str} {k j n : Nat} {sp : Spec} (F : Fn P w K mg base x k n sp) (h : k ≤ j) : Fn P w K mg base x j n sp := by
  obtain ⟨f, fd, ps, e, hm, ok, kp, b⟩ := F.ex
  exact ⟨f, fd, ps, e, hm, ok.mono h, kp, b⟩
theorem Fn.imp {P : Program} {w : World} {K : PySem.W.Frag} {mg : Str → Option Value} {base : Heap} {x : Str} {k n : Nat} {sp sp' : Spec} (F : Fn P w K mg base x k n sp) (h : ∀ ds cs Q X, sp' ds cs Q X → sp ds cs Q X) : Fn P w K mg base x k n sp' := by
  obtain ⟨f, fd, ps, e, hm, ok, kp, b⟩ := F.ex
  exact ⟨f, fd, ps, e, hm, ok.imp fun vs H Q E ⟨wd, F, cs, ds, P, PX, R, r, s, q⟩ => ⟨wd, F, cs, ds, P, PX, R, r, h _ _ _ _ s, q⟩, kp, b⟩
section
variable {X : Cx} {W : WX} {pos p : Pos} {e : Expr} {es : List Expr} {ces : Es} {sp : Spec} {x : Str} {k n : Nat}
theorem j_call (F : Fn X.prog X.w X.K X.mg X.base x k n sp) (hr : Room k X.A) (tk : L2N.Takes X W) (hg : Gl X x) (ha : JA X W (e :: es) ces) (hdb : (x == ("__debug__" : Str)) = false := by decide)
    (he : starEach (e :: es) X.env = (false, eval e X.env) :: starEach es X.env := by rfl) (hpl : (backTo pos (starEach es X.env)).any (·.1) = false := by rfl) : JE X W (.Call (.Name x p) (e :: es) [] pos) (.app sp ces) := by
  obtain ⟨f, fd, ps, en, hm, ok, kp, b⟩ := F.ex
  obtain ⟨ta, p1, r1⟩ := ha
  refine ⟨_, pe_callSD ok hr hg hm kp b .nil (fun σ => L2N.passAt tk σ) p1 hdb he hpl, fun wd F τ cs σ H P PX Q R rs h q x => ?_⟩
  refine r1 wd F τ cs σ H _ PX _ R rs h (fun wd1 ds c1 vs H1 l1 R1 rv h1 => ?_) x
  rw [List.append_nil]
  exact ⟨wd1, F, c1, ds, P, PX, R1, rv, h1, q.mono l1, fun wd' y cs' cls dd H' l R' rx z => x wd' y cs' cls dd H' (l1.trans l) R' rx z⟩
end
theorem rs_start {K : PySem.W.Frag} {wd : Wd} {N : List Str} {ds : List D} {vs : List V} (r : RpL K wd ds vs) : RS K wd (G.start N.length ds) (L2.start N vs) := by
  have hl := r.length
  refine ⟨by simp [G.start, L2.start, hl], fun i d e => ?_⟩
  rw [getV_eq] at e
  unfold G.start at e
  unfold L2.start
  by_cases hi : i < ds.length
  · rw [List.getElem?_append_left (by simpa using hi), List.getElem?_map] at e
    cases ed : ds[i]? with
    | none =>
      rw [ed] at e
      cases e
    | some d' =>
      rw [ed] at e
      have : d' = d := Option.some.inj e
      subst this
      obtain ⟨v, h1, h2⟩ := r.get ed
      exact ⟨v, by rw [List.getElem?_append_left (by rw [List.length_map]; omega), List.getElem?_map, h1]; rfl, h2⟩
  · rw [List.getElem?_append_right (by simpa using Nat.le_of_not_lt hi), List.getElem?_replicate] at e
    split at e <;> cases e
section
variable {P : Program} {w : World} {K : PySem.W.Frag} {mg : Str → Option Value} {base : Heap}
/-- what the terms of a body want of its context -/
structure Ct (X : Cx) (W : WX) (k : Nat) : Prop where
  hc : X.calm = true
  hN : X.N.Nodup
  hp : PassesOwn (model X.prog X.w) X.A X.env X.xe
  tk : L2N.Takes X W
  hr : Room k X.A
theorem Ct.hu {X : Cx} {W : WX} {k : Nat} (c : Ct X W k) : X.A.units + 64 < cLine := by have := c.hr.un; omega
abbrev wxOf (E : XK) : WX := fun cls d _ H => E cls d H
theorem fnOk_of {x qual : Str} {params : Arguments} {body : List Stmt} {scope : Scope} {dvs : List V} {kws : List (Str × V)} {f : Addr} {fd : FuncData} {N ps : List Str} {k : Nat} {sp : Spec} {core : S} (FD : FunD K x qual params body scope dvs kws f fd) (S : FnScope N ps scope)
    (len : ∀ ds cs Q PX, sp ds cs Q PX → ds.length = ps.length)
    (hb : ∀ (cdv : Value) (A : Around) (outer : List Env) (s : Shared) (H : Hp) (E : XK), Ct (cxOf (L2N.CX P w) P w K mg base N qual scope f cdv A outer s H E) (wxOf E) k → JSs (cxOf (L2N.CX P w) P w K mg base N qual scope f cdv A outer s H E) (wxOf E) body core)
    (ok : okFn N.length core sp) : FnOk P w K mg base (L2N.CX P w) (k + 1) f fd ps (lift K mg sp) := by
  refine FD.ok S (fun vs H Q E h => ?_) fun cdv A outer s H vs Q E hr h => ?_
  · obtain ⟨wd, F, cs, ds, PD, PX, R, r, s, q⟩ := h
    rw [r.length]
    exact len _ _ _ _ s
  · obtain ⟨wd, F, cs, ds, PD, PX, R, r, hs, q, x⟩ := h
    obtain ⟨t, p1, r1⟩ := hb cdv A outer s H E ⟨rfl, S.nd, passes_of rfl, L2N.takes_of rfl rfl rfl rfl, hr⟩
    refine ⟨t, p1, ?_⟩
    refine r1 wd F _ cs _ H _ _ R (rs_start r) (ok ds cs PD PX hs) ⟨fun wd' τ cs' σ H' l R' rs' h' => q wd' .non cs' .non H' l R' rfl h', fun _ _ _ _ _ _ _ _ z => z.elim, fun _ _ _ _ _ _ _ _ z => z.elim, q, fun wd' y τ cs' σ cls dd H' l R' rs' rx z => x wd' y cs' cls dd H' l R' rx z⟩
end
end G

/-! GMeth: methods of lists, places stored. -/
namespace G
open PySem PySem.Spec L2
open Evl (Ex)
def RefM (K : PySem.W.Frag) (r : V → List V → Hp → VK → Prop) (sp : Spec) : Prop := ∀ wd F cs H d ds v vs (P : KD) (PX : KX) (Q : VK), Rl K wd F cs H → Rp K wd d v → RpL K wd ds vs → sp (d :: ds) cs P PX → QOk K wd F P Q → r v vs H Q
section
variable {X : Cx} {W : WX} {pos apos : Pos} {o e : Expr} {es : List Expr} {co ce : E} {ces : Es} {sp : Spec}
theorem j_methL {r : V → List V → Hp → VK → Prop} {id : String} {name : Str} (slot : Slot "list" name id) (hty : typeOf (.builtin id) = pure (.type "method_descriptor")) (hm : MtR X id r) (hr : RefM X.K r sp) (ho : JE X W o co) (ha : JA X W (e :: es) ces)
    (hbase : attributeBase o name X.env (eval o X.env) = eval o X.env := by rfl)
    (hfew : ((backTo pos (starEach (e :: es) X.env)).all (fun x => !x.1) && (backToKw pos (keywordEach [] X.env)).all (fun x => x.1.isSome)
      && decide ((e :: es).length + ([] : List Keyword).length + (if ([] : List Keyword).isEmpty then 0 else 1) < 30)) = true := by rfl)
    (hline : (apos.endLine == pos.line) = true := by rfl) (hs : starEach (e :: es) X.env = (false, eval e X.env) :: starEach es X.env := by rfl) (hplain : (backTo pos (starEach es X.env)).any (·.1) = false := by rfl) :
    JE X W (.Call (.Attribute o name apos) (e :: es) [] pos) (.meth chkL sp co ces) := by
  obtain ⟨to, p1, r1⟩ := ho
  obtain ⟨ta, p2, r2⟩ := ha
  refine ⟨_, pe_bm PySem.F.plainAttrs_list slot hty hm p1 p2 hbase hfew hline hs hplain, fun wd F τ cs σ H P PX Q R rs h q x => ?_⟩
  refine r1 wd F τ cs σ H _ PX _ R rs h (fun wd1 d c1 v H1 l1 R1 rv h1 => ?_) x
  obtain ⟨hk, h1⟩ := h1
  cases ex : getL d c1 with
  | none =>
    unfold chkL at hk
    rw [ex] at hk
    exact hk.elim
  | some xs =>
    obtain ⟨a, ws, e2, s, r3⟩ := R1.getL rv ex
    subst e2
    refine ⟨Or.inl ⟨rfl, ws, SqL.of s⟩, ?_⟩
    · refine r2 wd1 F τ c1 σ H1 _ PX _ R1 (rs.mono l1) h1 (fun wd2 ds c2 vs H2 l2 R2 rvs h2 => ?_) (x.mono l1)
      exact hr wd2 F c2 H2 d ds _ vs P PX Q R2 (rv.mono l2) rvs h2 (q.mono (l1.trans l2))
/-- a cell's list, to be written -/
theorem Rl.cellAt {K : PySem.W.Frag} {wd : Wd} {F H : Hp} {cs : Cs} (R : Rl K wd F cs H) {n : Nat} {v : V} {xs : List D} (r : Rp K wd (.ref n) v) (h : cs n = some (.lst xs)) :
    ∃ a vs, v = .ref a ∧ H a = some (.lst vs) ∧ RpL K wd xs vs ∧ ∀ ys ws, RpL K wd ys ws → Rl K wd F (put cs n (.lst ys)) (upd H a (.lst ws)) := by
  obtain ⟨a, ea, ev⟩ := id r
  obtain ⟨a', u, f1, f2, f3, f4, ws, f5, f6⟩ := R.cell n _ h
  have : a' = a := Option.some.inj (f1.symm.trans ea)
  subst this f5
  exact ⟨a', ws, ev, f4, f6, fun ys zs q => R.write ⟨_, h⟩ f1 ⟨zs, rfl, q⟩⟩
theorem sAppend_inv {ds : List D} {cs : Cs} {Q : KD} {PX : KX} {d : D} (h : sAppend (d :: ds) cs Q PX) : ∃ n y xs, d = .ref n ∧ ds = [y] ∧ cs n = some (.lst xs) ∧ xs.length < lim ∧ Q .non (put cs n (.lst (xs ++ [y]))) := by
  unfold sAppend at h
  split at h
  · rename_i n y e
    cases e
    split at h
    · rename_i xs ec
      exact ⟨n, y, xs, rfl, rfl, ec, h.1, h.2⟩
    · exact h.elim
  · exact h.elim
theorem refm_append : RefM X.K rAppend sAppend := by
  intro wd F cs H d ds v vs P PX Q R rv rvs h q
  obtain ⟨n, y, xs, e1, e2, ec, hl, hP⟩ := sAppend_inv h
  subst e1 e2
  obtain ⟨a, ws, ea, hH, rw', put'⟩ := R.cellAt rv ec
  obtain ⟨w, ew, rw2⟩ := rvs.one
  exact ⟨a, ws, w, ea, ew, hH, by rw [rw'.length, sizeL]; exact hl, q wd .non _ _ _ (Wd.le.refl _) (put' _ _ (rw'.append (es := [y]) (ws := [w]) ⟨w, [], rfl, rw2, rfl⟩)) rfl hP⟩
theorem j_append (ho : JE X W o co) (ha : JE X W e ce) (hs : starEach [e] X.env = (false, eval e X.env) :: starEach [] X.env := by rfl) (hbase : attributeBase o "append" X.env (eval o X.env) = eval o X.env := by rfl)
    (hfew : ((backTo pos (starEach [e] X.env)).all (fun x => !x.1) && (backToKw pos (keywordEach [] X.env)).all (fun x => x.1.isSome)
      && decide ([e].length + ([] : List Keyword).length + (if ([] : List Keyword).isEmpty then 0 else 1) < 30)) = true := by rfl)
    (hline : (apos.endLine == pos.line) = true := by rfl) : JE X W (.Call (.Attribute o "append" apos) [e] [] pos) (.meth chkL sAppend co (.cons ce .nil)) :=
  j_methL PySem.F.slot_list_append PySem.F.type_list_append mt_append refm_append ho (ja_cons ha ja_nil hs) hbase hfew hline hs rfl
/-! ### a[i] = e -/
theorem sSetIx_inv {v d i : D} {cs : Cs} {Q : KD} {PX : KX} (h : sSetIx [v, d, i] cs Q PX) : ∃ n k xs j, d = .ref n ∧ i = .int k ∧ cs n = some (.lst xs) ∧ ixn xs.length k = some j ∧ Q .non (put cs n (.lst (xs.set j v))) := by
  unfold sSetIx at h
  split at h
  · rename_i v n k e
    cases e
    split at h
    · rename_i xs ec
      split at h
      · rename_i j ej
        exact ⟨n, k, xs, j, rfl, rfl, ec, ej, h⟩
      · exact h.elim
    · exact h.elim
  · exact h.elim
theorem js_setIx {i : Expr} {ci : E} (he : JE X W e ce) (ho : JE X W o co) (hi : JE X W i ci) (hs : swapsWithSole [.Subscript o i apos] e pos.line X.env = pure false := by rfl) (hw : swappedStores [.Subscript o i apos] e X.env = pure none := by rfl)
    (h1 : (assignEach [.Subscript o i apos] X.env).map (·.2) = [assign (.Subscript o i apos) X.env] := by rfl)
    (ha : ∀ v, assign (.Subscript o i apos) X.env v = (do
      let ov ← holding [v] (eval o X.env)
      let iv ← holding [v, ov] (eval i X.env)
      standAt apos
      holding [v, ov, iv] (setItem ov iv v)
      release [v, ov, iv] []) := by intro _; rfl) : JS X W (.Assign [.Subscript o i apos] e pos) (.exp (.app sSetIx (.cons ce (.cons co (.cons ci .nil))))) := by
  obtain ⟨te, p1, r1⟩ := he
  obtain ⟨to, p2, r2⟩ := ho
  obtain ⟨ti, p3, r3⟩ := hi
  refine ⟨_, ps_asg p1 (pg_sub p2 p3 set_list ha) hs hw h1, fun wd F τ cs σ H P Q R rs h q => ?_⟩
  refine r1 wd F τ cs σ H _ _ _ R rs h (fun wd1 d1 c1 v1 H1 l1 R1 rv1 h1 => ?_) (q.xok rs)
  refine r2 wd1 F τ c1 σ H1 _ _ _ R1 (rs.mono l1) h1 (fun wd2 d2 c2 v2 H2 l2 R2 rv2 h2 => ?_) ((q.xok rs).mono l1)
  refine r3 wd2 F τ c2 σ H2 _ _ _ R2 (rs.mono (l1.trans l2)) h2 (fun wd3 d3 c3 v3 H3 l3 R3 rv3 h3 => ?_) ((q.xok rs).mono (l1.trans l2))
  obtain ⟨n, k, xs, j, e1, e2, ec, ej, hP⟩ := sSetIx_inv (v := d1) (d := d2) (i := d3) (cs := c3) (Q := fun x cs' => P.nx τ cs') (PX := fun x cs' => P.ex x τ cs') h3
  subst e1 e2
  obtain ⟨a, ws, ea, hH, rw', put'⟩ := R3.cellAt (rv2.mono l3) ec
  have l13 := l1.trans (l2.trans l3)
  refine ⟨a, ws, k, j, ea, rv3, hH, by rw [rw'.length]; exact ej, ?_⟩
  exact q.nx wd3 τ _ σ _ l13 (put' _ _ (rw'.set (rv1.mono (l2.trans l3)))) (rs.mono l13) hP
end
end G
namespace G
open PySem PySem.Spec L2
def sIAdd : Spec := sInt CTrue fun i j => .int (i + j)
section
variable {X : Cx} {W : WX} {pos p' : Pos} {e : Expr} {ce : E}
theorem ref_aug {i : Nat} {te : TE} {ti : TIp} {C : Int → Int → Prop} {f : Int → Int → Int} (r : RefE X W te ce) (h : ∀ i j H (Q : VK), C i j → Q (.int (f i j)) H → ti (.int i) (.int j) H Q) :
    RefS X W (tAug i te ti) (.asg (.nm i) (.app (sInt C fun i j => .int (f i j)) (.cons (.v i) (.cons ce .nil)))) := by
  intro wd F τ cs σ H P Q R rs hw q
  have hw : (match getV τ i with
    | some d => wpE ce τ cs (fun d2 c1 => sInt C (fun i j => .int (f i j)) [d, d2] c1 (fun d c2 => match bindP (.nm i) [d] τ with
      | some σ' => P.nx σ' c2
      | none => False) (fun x c2 => P.ex x τ c2)) (fun x c2 => P.ex x τ c2)
    | none => False) := hw
  cases e : getV τ i with
  | none => rw [e] at hw; exact hw.elim
  | some d =>
    rw [e] at hw
    obtain ⟨v, hv, rv⟩ := rs.at_ i d e
    refine ⟨v, hv, ?_⟩
    refine r wd F τ cs σ H _ _ _ R rs hw (fun wd1 d2 c1 v2 H1 l1 R1 rv2 h1 => ?_) (q.xok rs)
    obtain ⟨a, b, e1, e2, hc, hp⟩ := sInt_inv h1
    subst e1 e2
    rw [show v = _ from rv, show v2 = _ from rv2]
    exact h a b H1 _ hc (q.nx wd1 _ c1 _ H1 l1 R1 ((rs.mono l1).set (d := .int (f a b)) (v := .int (f a b)) i rfl) hp)
theorem js_augAdd (i : Nat) {x : Str} (hN : X.N.Nodup) (hi : X.N[i]? = some x) (hx : Loc X.env.scope x) (he : JE X W e ce) (hf : X.fn x = true ∨ X.env.scope.names.lookup x = some .local := by first | exact .inl rfl | exact .inr rfl | assumption) :
    JS X W (.AugAssign (.Name x p') .Add e pos) (.asg (.nm i) (.app sIAdd (.cons (.v i) (.cons ce .nil)))) := by
  obtain ⟨t, p1, r1⟩ := he
  exact ⟨_, ps_aug hN hi hx p1 ip_add hf, ref_aug (C := CTrue) (f := fun i j => i + j) r1 fun i j H Q _ q => ⟨i, j, rfl, rfl, q⟩⟩
end
end G

/-! GDict: dicts as cells. -/
namespace G
open PySem PySem.Spec L2
def valA (l : DL) (k : Key) : Option D := (l.find? fun p => decide (p.1 = k)).map (·.2)
/-- the same keys, the values told -/
structure DicR (K : PySem.W.Frag) (wd : Wd) (l : DL) (kvs : List (Key × V)) : Prop where
  ks : l.map (·.1) = kvs.map (·.1)
  vs : RpL K wd (l.map (·.2)) (kvs.map (·.2))
section
variable {K : PySem.W.Frag} {wd wd' : Wd} {F H : Hp} {cs : Cs}
theorem DicR.o {l : DL} {kvs : List (Key × V)} (h : DicR K wd l kvs) : RpO K wd (dicO l) (.dK kvs) := by
  refine ⟨kvs, rfl, ?_, h.vs⟩
  have := congrArg (List.map kD) h.ks
  rw [List.map_map, List.map_map] at this
  exact this
theorem DicR.cons_inv {p : Key × D} {l : DL} {q : Key × V} {kvs : List (Key × V)} (h : DicR K wd (p :: l) (q :: kvs)) : p.1 = q.1 ∧ Rp K wd p.2 q.2 ∧ DicR K wd l kvs := by
  have a := h.ks
  simp only [List.map_cons, List.cons.injEq] at a
  obtain ⟨v, r, e, b, c⟩ := h.vs
  simp only [List.map_cons, List.cons.injEq] at e
  exact ⟨a.1, by rw [e.1]; exact b, a.2, by rw [e.2]; exact c⟩
theorem DicR.nil : DicR K wd [] [] := ⟨rfl, rfl⟩
theorem DicR.cons {p : Key × D} {l : DL} {q : Key × V} {kvs : List (Key × V)} (h1 : p.1 = q.1) (h2 : Rp K wd p.2 q.2) (h : DicR K wd l kvs) : DicR K wd (p :: l) (q :: kvs) :=
  ⟨by simp only [List.map_cons, h1, h.ks], q.2, kvs.map (·.2), rfl, h2, h.vs⟩
theorem DicR.ind {M : DL → List (Key × V) → Prop} (h0 : M [] []) (hs : ∀ p l q kvs, p.1 = q.1 → Rp K wd p.2 q.2 → DicR K wd l kvs → M l kvs → M (p :: l) (q :: kvs)) : ∀ {l : DL} {kvs : List (Key × V)}, DicR K wd l kvs → M l kvs
  | [], [], _ => h0
  | [], _ :: _, h => by have := h.ks; simp at this
  | _ :: _, [], h => by have := h.ks; simp at this
  | p :: l, q :: kvs, h => by
    obtain ⟨a, b, c⟩ := h.cons_inv
    exact hs p l q kvs a b c (DicR.ind h0 hs c)
theorem DicR.mono {l : DL} {kvs : List (Key × V)} (h : DicR K wd l kvs) (le : wd.le wd') : DicR K wd' l kvs := ⟨h.ks, RpL.mono le _ _ h.vs⟩
theorem DicR.len {l : DL} {kvs : List (Key × V)} (h : DicR K wd l kvs) : l.length = kvs.length := by
  have := congrArg List.length h.ks
  simpa using this
theorem DicR.some {l : DL} {kvs : List (Key × V)} {k : Key} {d : D} (h : DicR K wd l kvs) : valA l k = some d → ∃ v, valV kvs k = some v ∧ Rp K wd d v := by
  refine DicR.ind (M := fun l kvs => valA l k = Option.some d → ∃ v, valV kvs k = Option.some v ∧ Rp K wd d v) ?_ ?_ h
  · intro e
    simp [valA] at e
  · intro p l q kvs h1 h2 _ ih e
    unfold valA at e
    by_cases z : p.1 = k
    · rw [List.find?_cons_of_pos (by simpa using z)] at e
      cases e
      exact ⟨q.2, valV_pos (h1.symm.trans z), h2⟩
    · rw [List.find?_cons_of_neg (by simpa using z)] at e
      obtain ⟨v, a, b⟩ := ih e
      exact ⟨v, by rw [valV_neg (fun y => z (h1.trans y))]; exact a, b⟩
theorem DicR.none {l : DL} {kvs : List (Key × V)} {k : Key} (h : DicR K wd l kvs) : valA l k = none → valV kvs k = none := by
  refine DicR.ind (M := fun l kvs => valA l k = Option.none → valV kvs k = Option.none) ?_ ?_ h
  · intro _
    rfl
  · intro p l q kvs h1 h2 _ ih e
    unfold valA at e
    by_cases z : p.1 = k
    · rw [List.find?_cons_of_pos (by simpa using z)] at e
      cases e
    · rw [List.find?_cons_of_neg (by simpa using z)] at e
      rw [valV_neg (fun y => z (h1.trans y))]
      exact ih e
theorem DicR.any {l : DL} {kvs : List (Key × V)} {k : Key} (h : DicR K wd l kvs) : (l.any fun p => decide (p.1 = k)) = kvs.any fun p => decide (p.1 = k) := by
  refine DicR.ind (M := fun l kvs => (l.any fun p => decide (p.1 = k)) = kvs.any fun p => decide (p.1 = k)) rfl ?_ h
  intro p l q kvs h1 h2 _ ih
  rw [List.any_cons, List.any_cons, ih, h1]
theorem DicR.put {l : DL} {kvs : List (Key × V)} {k : Key} {d : D} {v : V} (h : DicR K wd l kvs) (r : Rp K wd d v) : DicR K wd (putA l k d) (putK kvs k v) := by
  unfold putA putK
  rw [h.any (k := k)]
  by_cases z : (kvs.any fun p => decide (p.1 = k)) = true
  · rw [if_pos z, if_pos z]
    refine DicR.ind (M := fun l kvs => DicR K wd (l.map fun p => if p.1 = k then (p.1, d) else p) (kvs.map fun p => if p.1 = k then (p.1, v) else p)) DicR.nil ?_ h
    intro p l q kvs h1 h2 _ ih
    rw [List.map_cons, List.map_cons]
    by_cases y : p.1 = k
    · rw [if_pos y, if_pos (h1.symm.trans y)]
      exact DicR.cons h1 r ih
    · rw [if_neg y, if_neg (fun e => y (h1.trans e))]
      exact DicR.cons h1 h2 ih
  · rw [if_neg z, if_neg z]
    refine ⟨by simp only [List.map_append, h.ks]; rfl, ?_⟩
    rw [List.map_append, List.map_append]
    exact h.vs.append (es := [d]) (ws := [v]) ⟨v, [], rfl, r, rfl⟩
end
/-! ### rules -/
section
variable {X : Cx} {W : WX} {pos apos cpos p : Pos} {o i e f value : Expr} {co ci ce cf cv : E}
end
end G

/-! GClr: list.clear. -/
namespace G
open PySem PySem.Spec L2
open Evl (Ex)
section
variable {X : Cx} {W : WX} {pos apos : Pos} {o : Expr} {co : E}
theorem j_gint {x : Str} {i : Int} {pos : Pos} (hg : Gl X x) (hm : ∃ t, X.mg x = some (.int i t)) (hd : (x == ("__debug__" : Str)) = false := by decide) : JE X W (.Name x pos) (.c (.int i)) := by
  obtain ⟨t, hm⟩ := hm
  exact j_glob (v := .int i) hg hm ⟨t, rfl⟩ (fun _ => rfl) hd
end
end G

/-! GExt: list.extend. -/
namespace G
open PySem PySem.Spec L2
open Evl (Ex)
section
variable {X : Cx} {W : WX} {pos apos : Pos} {o e : Expr} {co ce : E}
end
end G

/-! GMisc: dict.clear, max of a list, int of a bool, str of an int, join, list.pop, list.remove. -/
namespace G
open PySem PySem.Spec L2
open Evl (Ex)
def sStrI : Spec := fun ds cs Q _ => ∃ i : Int, ds = [.int i] ∧ i.natAbs.log2 < 1920 ∧ Q (.str (toString i)) cs
def sJoin : Spec := fun ds cs Q _ => ∃ x a, ∃ ys : List Str, ds = [.str a, x] ∧ getL x cs = some (ys.map D.str) ∧ (ys.map (·.length)).sum + ys.length * a.length ≤ 16777216 ∧ Q (.str (Txt.join a ys)) cs
theorem rpL_strs {K : PySem.W.Frag} {wd : Wd} : ∀ {is : List Str} {vs : List V}, RpL K wd (is.map D.str) vs → vs = is.map V.str
  | [], vs, h => h
  | i :: is, vs, h => by
    obtain ⟨v, ws, e, a, b⟩ := h
    rw [e, rpL_strs b, show v = .str i from a]
    rfl
theorem RpL.dropLast {K : PySem.W.Frag} {wd : Wd} {ds : List D} {vs : List V} (h : RpL K wd ds vs) : RpL K wd ds.dropLast vs.dropLast := by
  rw [List.dropLast_eq_take, List.dropLast_eq_take, h.length]
  exact h.take _
section
variable {X : Cx} {W : WX} {pos apos p : Pos} {o a e : Expr} {co ca ce : E}
theorem refn_strI {K : PySem.W.Frag} : RefN K (fun xs H Q => ∃ i, xs = [.int i] ∧ i.natAbs.log2 < 1920 ∧ Q (.str (toString i)) H) sStrI := by
  intro wd F cs H ds vs P PX Q R r hs q
  obtain ⟨i, rfl, hl, hP⟩ := hs
  obtain ⟨v, ev, rv⟩ := r.one
  exact ⟨i, by rw [ev, show v = _ from rv], hl, q wd (.str _) cs _ H (Wd.le.refl _) R rfl hP⟩
theorem j_strI (hg : Gl X "str") (hm : X.mg "str" = none) (ha : JE X W a ca) (h1 : starEach [a] X.env = (false, eval a X.env) :: starEach [] X.env := by rfl) : JE X W (.Call (.Name "str" p) [a] [] pos) (.app sStrI (.cons ca .nil)) :=
  j_bltnTy call_str_int refn_strI hg hm boot_strG (ja_cons ha ja_nil h1) (he := h1) (hpl := rfl)
def chkS (d : D) (_ : Cs) : Prop := ∃ a, d = .str a
theorem j_join (ho : JE X W o co) (ha : JE X W a ca) (hs : starEach [a] X.env = [(false, eval a X.env)] := by rfl) (hbase : attributeBase o "join" X.env (eval o X.env) = eval o X.env := by rfl) (hline : (apos.endLine == pos.line) = true := by rfl) :
    JE X W (.Call (.Attribute o "join" apos) [a] [] pos) (.meth chkS sJoin co (.cons ca .nil)) := by
  obtain ⟨to, p1, r1⟩ := ho
  obtain ⟨ta, p2, r2⟩ := ha
  refine ⟨_, pe_join p1 p2 hs hbase hline, fun wd F τ cs σ H P PX Q R rs h q x => ?_⟩
  refine r1 wd F τ cs σ H _ PX _ R rs h (fun wd1 d c1 v H1 l1 R1 rv h1 => ?_) x
  obtain ⟨⟨z, ez⟩, h1⟩ := h1
  subst ez
  refine ⟨⟨z, rv⟩, ?_⟩
  refine r2 wd1 F τ c1 σ H1 _ PX _ R1 (rs.mono l1) h1 (fun wd2 d2 c2 v2 H2 l2 R2 rv2 h2 => ?_) (x.mono l1)
  obtain ⟨y, a, ys, e, ey, hl, hP⟩ := h2
  simp only [List.cons.injEq, and_true] at e
  obtain ⟨e1, e2⟩ := e
  cases e1
  subst e2
  obtain ⟨b, ws, e3, s, r3⟩ := R2.getL rv2 ey
  subst e3
  have := rpL_strs r3
  subst this
  exact ⟨z, b, ys, rv, rfl, .inl (SqL.of s), hl, q wd2 (.str _) c2 _ H2 (l1.trans l2) R2 rfl hP⟩
end
end G

/-! GKw: calls with keywords. -/
namespace G
open PySem PySem.Spec L2
open Evl (Ex)
theorem permL_vals : ∀ (ix : List Nat) {vs : List V} {us : List Value}, Vals vs us → Vals (permL ix vs) (permL ix us)
  | [], _, _, _ => .nil
  | i :: ix, vs, us, r => by
    have ih := permL_vals ix r
    unfold permL at ih ⊢
    rw [List.filterMap_cons, List.filterMap_cons]
    cases e : vs[i]? with
    | none =>
      rw [r.none_of e]
      exact ih
    | some v =>
      obtain ⟨u, h1, h2⟩ := r.get e
      rw [h1]
      exact .cons h2 ih
theorem RpL.none_of {K : PySem.W.Frag} {wd : Wd} {ds : List D} {vs : List V} {i : Nat} (r : RpL K wd ds vs) (e : ds[i]? = none) : vs[i]? = none := by
  have h := r.length
  have h2 : ds.length ≤ i := List.getElem?_eq_none_iff.mp e
  exact List.getElem?_eq_none_iff.mpr (by omega)
theorem permL_rp {K : PySem.W.Frag} {wd : Wd} : ∀ (ix : List Nat) {ds : List D} {vs : List V}, RpL K wd ds vs → RpL K wd (permL ix ds) (permL ix vs)
  | [], _, _, _ => rfl
  | i :: ix, ds, vs, r => by
    have ih := permL_rp ix r
    unfold permL at ih ⊢
    rw [List.filterMap_cons, List.filterMap_cons]
    cases e : ds[i]? with
    | none =>
      rw [r.none_of e]
      exact ih
    | some v =>
      obtain ⟨u, h1, h2⟩ := r.get e
      rw [h1]
      exact ⟨u, _, rfl, h2, ih⟩
/-- a def called with n values and the keywords ks -/
structure FnK (P : Program) (w : World) (K : PySem.W.Frag) (mg : Str → Option Value) (base : Heap) (x : Str) (k n : Nat) (ks : List Str) (ix : List Nat) (sp : Spec) : Prop where
  ex : ∃ f fd ps, mg x = some (.ref f) ∧ FnOk P w K mg base (L2N.CX P w) k f fd ps (lift K mg sp) ∧ PySem.W.keepIn K (.ref f) = true ∧
    ∀ (s : Shared) (us ws : List Value), us.length = n → ws.length = ks.length → BindsTo s fd ⟨us, ks.zip ws⟩ (ps.zip (permL ix (us ++ ws)))
section
variable {X : Cx} {W : WX} {pos p : Pos} {e : Expr} {es : List Expr} {kws : List Keyword} {ces cks call : Es} {sp : Spec} {x : Str} {k n : Nat} {ks : List Str} {ix : List Nat}
def JK (X : Cx) (W : WX) (kws : List Keyword) (c : Es) : Prop := ∃ ta, PK X kws ta ∧ RefA X W ta c
theorem jk_nil : JK X W [] .nil := ⟨_, pk_nil, fun wd F τ cs σ H P PX Q R r h q x => q wd [] cs [] H (Wd.le.refl _) R rfl h⟩
theorem jk_cons {ce : E} {nm : Option Str} {kpos : Pos} (h1 : JE X W e ce) (h2 : JK X W kws cks) : JK X W (⟨nm, e, kpos⟩ :: kws) (.cons ce cks) := by
  obtain ⟨te, p1, r1⟩ := h1
  obtain ⟨ta, p2, r2⟩ := h2
  refine ⟨_, pk_cons p1 p2, fun wd F τ cs σ H P PX Q R r h q x => ?_⟩
  refine r1 wd F τ cs σ H _ PX _ R r h (fun wd1 d c1 v H1 l1 R1 rv h1 => ?_) x
  refine r2 wd1 F τ c1 σ H1 _ PX _ R1 (r.mono l1) h1 (fun wd2 ds c2 vs H2 l2 R2 rvs h2 => ?_) (x.mono l1)
  exact q wd2 (d :: ds) c2 (v :: vs) H2 (l1.trans l2) R2 ⟨v, vs, rfl, rv.mono l2, rvs⟩ h2
/-- the callee runs -/
theorem run_kw {f : Addr} {fd : FuncData} {ps : List Str} {E : XK} {pins : List (Addr × Obj)} {σ : St} {H : Hp} {s : Shared} {Q : VK} {us ws : List Value} {vs zs : List V} (ok : FnOk X.prog X.w X.K X.mg X.base (L2N.CX X.prog X.w) k f fd ps (lift X.K X.mg sp)) (hr : Room k X.A) (hb : BindsTo s fd ⟨us, ks.zip ws⟩ (ps.zip (permL ix (us ++ ws))))
    (hx : PassesAt (L2N.CX X.prog X.w) X σ E) (I : Inv X pins σ H s) (r : Vals vs us) (rz : Vals zs ws) (h : lift X.K X.mg sp (permL ix (vs ++ zs)) H Q E) : wpAny (model X.prog X.w) X.A (PySem.call (.ref f) us (ks.zip ws)) (EP X pins σ Q) X.xe s := by
  refine wpAny_call (codeAny_mono (ok.run X.A X.stack s H ⟨us, ks.zip ws⟩ _ _ Q E hr I.env0 hb (permL_vals ix (r.append rz)) h) fun res s' hq => ?_)
  cases res with
  | error err => exact hx pins H s err s' I hq
  | ok fl =>
    cases fl with
    | ret u => exact I.after hq
    | next => exact hq.elim
    | brk => exact hq.elim
    | cont => exact hq.elim
theorem j_callk0 (F : FnK X.prog X.w X.K X.mg X.base x k 0 ks ix sp) (hr : Room k X.A) (tk : L2N.Takes X W) (hg : Gl X x) (hk : JK X W kws cks) (hall : (backToKw pos (keywordEach kws X.env)).all (·.1.isSome) = true := by rfl) (hks : (backToKw pos (keywordEach kws X.env)).filterMap (·.1) = ks := by rfl)
    (hdb : (x == ("__debug__" : Str)) = false := by decide) (hpl : ((backTo pos (starEach [] X.env)).any (·.1) || (backToKw pos (keywordEach kws X.env)).any (·.1.isNone)) = false := by rfl) (hlen : kws.length = ks.length := by rfl) :
    JE X W (.Call (.Name x p) [] kws pos) (.appk 0 ks.length ix sp .nil cks) := by
  obtain ⟨f, fd, ps, hm, ok, kp, hb⟩ := F.ex
  obtain ⟨ta, p1, r1⟩ := hk
  refine ⟨fun σ H Q => ta σ H fun zs H2 => zs.length = ks.length ∧ lift X.K X.mg sp (permL ix zs) H2 Q (WE W σ), ⟨fun pins s σ H Q I h => ?_⟩, fun wd F τ cs σ H P PX Q R rs h q x => ?_⟩
  · refine wpAny_Call_Name_kw (ld_glob I hg hm ?_ hdb)
    refine PySem.W.callWith_KW0 (h₀ := X.base) I.ok.mod.kin kp hall (thn (p1.run pos pins s σ H _ I h) fun ws s2 ⟨zs, H2, I2, rz, l2, q2⟩ => ⟨I2.kIn, ?_⟩) hpl
    rw [hks]
    exact run_kw (us := []) (vs := []) ok hr (hb s2 [] ws rfl (rz.length.symm.trans l2)) (L2N.passAt tk σ) I2 .nil rz q2
  · refine r1 wd F τ cs σ H _ PX _ R rs h (fun wd1 ds c1 vs H1 l1 R1 rv h1 => ⟨rv.length.trans h1.2.1, wd1, F, c1, permL ix ds, P, PX, R1, permL_rp ix rv, h1.2.2, q.mono l1, fun wd' y cs' cls dd H' l R' rx z => x wd' y cs' cls dd H' (l1.trans l) R' rx z⟩) x
end
end G

/-! GLib: the core's readings, simplified; the helpers of the laws. -/
namespace G
open PySem (Str)
def iD (ns : List Int) : List D := ns.map D.int
@[simp] theorem put_same {cs : Cs} {n : Nat} {o : Ob} : put cs n o n = some o := if_pos rfl
@[simp] theorem put_put {cs : Cs} {n : Nat} {o o' : Ob} : put (put cs n o) n o' = put cs n o' := by
  funext m
  unfold put
  split <;> rfl
theorem put_ne {cs : Cs} {n m : Nat} {o : Ob} (h : m ≠ n) : put cs n o m = cs m := if_neg h
theorem del_put {cs : Cs} {n : Nat} {o : Ob} (h : cs n = none) : del (put cs n o) n = cs := by
  funext m
  unfold del put
  by_cases e : m = n
  · rw [if_pos e, e, h]
  · rw [if_neg e, if_neg e]
/-! ### how operations read -/
@[simp] theorem sLt_i {i j : Int} {cs : Cs} {Q : KD} {X : KX} : sLt [.int i, .int j] cs Q X = Q (.bl (decide (i < j))) cs := by simp [sLt, sInt, CTrue]
@[simp] theorem sLe_i {i j : Int} {cs : Cs} {Q : KD} {X : KX} : sLe [.int i, .int j] cs Q X = Q (.bl (decide (i ≤ j))) cs := by simp [sLe, sInt, CTrue]
@[simp] theorem sGt_i {i j : Int} {cs : Cs} {Q : KD} {X : KX} : sGt [.int i, .int j] cs Q X = Q (.bl (decide (j < i))) cs := by simp [sGt, sInt, CTrue]
@[simp] theorem sGe_i {i j : Int} {cs : Cs} {Q : KD} {X : KX} : sGe [.int i, .int j] cs Q X = Q (.bl (decide (j ≤ i))) cs := by simp [sGe, sInt, CTrue]
@[simp] theorem sAdd_i {i j : Int} {cs : Cs} {Q : KD} {X : KX} : sAdd [.int i, .int j] cs Q X = Q (.int (i + j)) cs := rfl
@[simp] theorem sSub_i {i j : Int} {cs : Cs} {Q : KD} {X : KX} : sSub [.int i, .int j] cs Q X = Q (.int (i - j)) cs := by simp [sSub, sInt, CTrue]
@[simp] theorem sMul_i {i j : Int} {cs : Cs} {Q : KD} {X : KX} : sMul [.int i, .int j] cs Q X = (mulOk i j ∧ Q (.int (i * j)) cs) := rfl
@[simp] theorem sDiv_i {i j : Int} {cs : Cs} {Q : KD} {X : KX} : sDiv [.int i, .int j] cs Q X = (divOk i j ∧ Q (.int (i / j)) cs) := rfl
@[simp] theorem sMod_i {i j : Int} {cs : Cs} {Q : KD} {X : KX} : sMod [.int i, .int j] cs Q X = (0 < j ∧ Q (.int (i % j)) cs) := rfl
@[simp] theorem sPow_i {i j : Int} {cs : Cs} {Q : KD} {X : KX} : sPow [.int i, .int j] cs Q X = (powOk i j ∧ Q (.int (i ^ j.toNat)) cs) := rfl
@[simp] theorem sMax2_i {i j : Int} {cs : Cs} {Q : KD} {X : KX} : sMax2 [.int i, .int j] cs Q X = Q (.int (if j > i then j else i)) cs := by simp [sMax2, sInt, CTrue]
@[simp] theorem sMin2_i {i j : Int} {cs : Cs} {Q : KD} {X : KX} : sMin2 [.int i, .int j] cs Q X = Q (.int (if j < i then j else i)) cs := by simp [sMin2, sInt, CTrue]
@[simp] theorem getQ_lst {xs : List D} {cs : Cs} : getQ (.lst xs) cs = some xs := rfl
@[simp] theorem getQ_tup {xs : List D} {cs : Cs} : getQ (.tup xs) cs = some xs := rfl
@[simp] theorem getL_lst {xs : List D} {cs : Cs} : getL (.lst xs) cs = some xs := rfl
@[simp] theorem getQ_ref {n : Nat} {cs : Cs} : getQ (.ref n) cs = match cs n with
  | some (.lst xs) => some xs
  | _ => none := rfl
@[simp] theorem getL_ref {n : Nat} {cs : Cs} : getL (.ref n) cs = match cs n with
  | some (.lst xs) => some xs
  | _ => none := rfl
@[simp] theorem sIx_e {x : D} {i : Int} {cs : Cs} {Q : KD} {X : KX} : sIx [x, .int i] cs Q X = match getQ x cs with
    | some xs => match ix xs i with
      | some d => Q d cs
      | none => False
    | none => False := by cases x <;> rfl
@[simp] theorem sSetIx_e {v : D} {n : Nat} {i : Int} {cs : Cs} {Q : KD} {X : KX} : sSetIx [v, .ref n, .int i] cs Q X = match cs n with
    | some (.lst xs) => match ixn xs.length i with
      | some j => Q .non (put cs n (.lst (xs.set j v)))
      | none => False
    | _ => False := rfl
@[simp] theorem sLen_e {x : D} {cs : Cs} {Q : KD} {X : KX} (h : ∀ s, x ≠ .str s) : sLen [x] cs Q X = match getQ x cs with
    | some xs => Q (.int xs.length) cs
    | none => False := by
  cases x with
  | str s => exact absurd rfl (h s)
  | _ => rfl
theorem ix_nat {xs : List D} {i : Nat} {d : D} (h : xs[i]? = some d) : ix xs (i : Int) = some d := by
  have hl : i < xs.length := (List.getElem?_eq_some_iff.mp h).1
  unfold ix ixn
  rw [if_pos (by omega), if_pos (by omega)]
  exact h
@[simp] theorem ix_0 {x : D} {xs : List D} : ix (x :: xs) 0 = some x := ix_nat (i := 0) rfl
@[simp] theorem ix_1 {x y : D} {xs : List D} : ix (x :: y :: xs) 1 = some y := ix_nat (i := 1) rfl
@[simp] theorem ix_2 {x y z : D} {xs : List D} : ix (x :: y :: z :: xs) 2 = some z := ix_nat (i := 2) rfl
@[simp] theorem ix_3 {x y z w : D} {xs : List D} : ix (x :: y :: z :: w :: xs) 3 = some w := ix_nat (i := 3) rfl
@[simp] theorem ixn_0 {n : Nat} : ixn (n + 1) 0 = some 0 := by
  unfold ixn
  rw [if_pos (by omega), if_pos (by omega)]
  rfl
@[simp] theorem ixn_1 {n : Nat} : ixn (n + 1 + 1) 1 = some 1 := by
  unfold ixn
  rw [if_pos (by omega), if_pos (by omega)]
  rfl
@[simp] theorem ixn_2 {n : Nat} : ixn (n + 1 + 1 + 1) 2 = some 2 := by
  unfold ixn
  rw [if_pos (by omega), if_pos (by omega)]
  rfl
@[simp] theorem ixn_3 {n : Nat} : ixn (n + 1 + 1 + 1 + 1) 3 = some 3 := by
  unfold ixn
  rw [if_pos (by omega), if_pos (by omega)]
  rfl
theorem sIx_l {x : D} {i : Int} {xs : List D} {d : D} {cs : Cs} {Q : KD} {X : KX} (h : getQ x cs = some xs) (hd : ix xs i = some d) : sIx [x, .int i] cs Q X = Q d cs := by
  have e : sIx [x, .int i] cs Q X = (match getQ x cs with
    | some xs => match ix xs i with
      | some d => Q d cs
      | none => False
    | none => False) := by cases x <;> rfl
  rw [e, h]
  simp only [hd]
theorem getQ_cell {n : Nat} {cs : Cs} {xs : List D} (h : cs n = some (.lst xs)) : getQ (.ref n) cs = some xs := by
  show (match cs n with
    | some (.lst xs) => some xs
    | _ => none) = _
  rw [h]
theorem getL_cell {n : Nat} {cs : Cs} {xs : List D} (h : cs n = some (.lst xs)) : getL (.ref n) cs = some xs := by
  show (match cs n with
    | some (.lst xs) => some xs
    | _ => none) = _
  rw [h]
/-! ### loops -/
theorem compL_pure {p : Pat} {grd : Cs → Prop} {σ : Sl} {tst elt : Sl → Cs → KD → Prop} {Q : List D → Cs → Prop} {cs : Cs} (q : D → Bool) (f : D → D) (hg : grd cs) : ∀ (items acc : List D),
    (∀ x ∈ items, ∃ σ1, bindP p [x] σ = some σ1 ∧ (∀ K : KD, K (.bl (q x)) cs → tst σ1 cs K) ∧ (q x = true → ∀ K : KD, K (f x) cs → elt σ1 cs K)) →
    acc.length + items.length ≤ lim → Q (acc ++ (items.filter q).map f) cs → compL p grd σ tst elt Q items acc cs
  | [], acc, _, _, hQ => ⟨hg, by simpa using hQ⟩
  | x :: xs, acc, h, hl, hQ => by
    obtain ⟨σ1, hb, ht, he⟩ := h x List.mem_cons_self
    refine ⟨hg, ?_⟩
    rw [hb]
    have ih := fun acc => compL_pure (tst := tst) (elt := elt) (Q := Q) q f hg xs acc fun y hy => h y (List.mem_cons_of_mem _ hy)
    have hl2 : acc.length + (xs.length + 1) ≤ lim := by simpa using hl
    refine ht _ ?_
    cases e : q x with
    | true =>
      refine .inl ⟨rfl, he e _ ⟨by omega, ih _ (by simp; omega) ?_⟩⟩
      simpa [e] using hQ
    | false =>
      refine .inr ⟨rfl, ih _ (by omega) ?_⟩
      simpa [e] using hQ
theorem forL_inv {p : Pat} {grd : Cs → Prop} {body : Sl → Cs → Ends → Prop} {K : Ends} (I : Nat → Sl → Cs → Prop) : ∀ (items : List D) (i : Nat) {σ : Sl} {cs : Cs}, I i σ cs →
    (∀ j σ cs, i ≤ j → j ≤ i + items.length → I j σ cs → grd cs) →
    (∀ j x σ cs, items[j]? = some x → I (i + j) σ cs → ∃ σ1, bindP p [x] σ = some σ1 ∧ ∀ K', (∀ σ' cs', I (i + j + 1) σ' cs' → K'.nx σ' cs') → (∀ σ' cs', I (i + j + 1) σ' cs' → K'.ct σ' cs') → K'.bk = K.nx → K'.rt = K.rt → K'.ex = K.ex → body σ1 cs K') →
    (∀ σ cs, I (i + items.length) σ cs → K.nx σ cs) → forL p grd body K items σ cs
  | [], i, σ, cs, h0, hg, _, hd => ⟨hg i σ cs (Nat.le_refl _) (Nat.le_add_right _ _) h0, hd σ cs h0⟩
  | x :: xs, i, σ, cs, h0, hg, hs, hd => by
    refine ⟨hg i σ cs (Nat.le_refl _) (Nat.le_add_right _ _) h0, ?_⟩
    obtain ⟨σ1, hb, hbody⟩ := hs 0 x σ cs rfl h0
    rw [hb]
    have nxt : ∀ σ' cs', I (i + 1) σ' cs' → forL p grd body K xs σ' cs' := fun σ' cs' h1 =>
      forL_inv I xs (i + 1) h1 (fun j σ cs a b => hg j σ cs (by omega) (by simp at b ⊢; omega)) (fun j x σ cs hj hI => by
        have hI' : I (i + (j + 1)) σ cs := by rw [show i + (j + 1) = i + 1 + j by omega]; exact hI
        have := hs (j + 1) x σ cs (by simpa using hj) hI'
        rw [show i + (j + 1) + 1 = i + 1 + j + 1 by omega] at this
        exact this) fun σ cs h => hd σ cs (by rw [show i + (x :: xs).length = i + 1 + xs.length by simp; omega]; exact h)
    exact hbody _ nxt nxt rfl rfl rfl
/-- a while, by an invariant and a measure -/
theorem whl_inv {tst : Sl → Cs → KD → KX → Prop} {body : Sl → Cs → Ends → Prop} {K : Ends} (I : Nat → Sl → Cs → Prop)
    (h : ∀ m σ cs, I m σ cs → ∃ b : Bool, (∀ Q : KD, ∀ X : KX, Q (.bl b) cs → tst σ cs Q X) ∧ (b = false → K.nx σ cs) ∧
      (b = true → ∀ K', (∀ m' σ' cs', m' < m → I m' σ' cs' → K'.nx σ' cs') → (∀ m' σ' cs', m' < m → I m' σ' cs' → K'.ct σ' cs') → K'.bk = K.nx → K'.rt = K.rt → K'.ex = K.ex → body σ cs K')) :
    ∀ (n m : Nat) (σ : Sl) (cs : Cs), m < n → I m σ cs → whlN tst body K n σ cs
  | 0, _, _, _, hn, _ => absurd hn (Nat.not_lt_zero _)
  | n + 1, m, σ, cs, hn, hI => by
    obtain ⟨b, ht, hf, hb⟩ := h m σ cs hI
    refine ht _ _ ?_
    cases b with
    | true =>
      have nxt : ∀ m' σ' cs', m' < m → I m' σ' cs' → whlN tst body K n σ' cs' := fun m' σ' cs' hm h' => whl_inv I h n m' σ' cs' (by omega) h'
      exact .inl ⟨rfl, hb rfl _ nxt nxt rfl rfl rfl⟩
    | false => exact .inr ⟨rfl, hf rfl⟩
/-! ### a draw -/
def drwL (ns : List Int) (p c z : Int) : List D := [.lst (iD ns), .int p, .int c, .int z]
/-- a draw begins -/
def spStartU : Spec := fun ds cs Q _ => ds = [.scr] ∧ ∀ n ns p c z, cs n = none → DrwOk ns p c z → Q (.ref n) (put cs n (.lst (drwL ns p c z)))
def spStart : Spec := fun ds cs Q _ => ds = [.scr] ∧ ∀ n, cs n = none → Q (.ref n) (put cs n .drw)
/-- the draw, its cell open -/
def spTakeU : Spec := fun ds cs Q _ => ∃ n m ns p c z, ds = [.ref n, .int m] ∧ cs n = some (.lst (drwL ns p c z)) ∧ DrwOk ns p c z ∧ 0 < m ∧ m < 2 ^ 200 ∧
  ∀ p' c' z' r, DrwOk ns p' c' z' → 0 ≤ r → r < m → Q (.int r) (put cs n (.lst (drwL ns p' c' z')))
/-- .. closed -/
def spTake : Spec := fun ds cs Q _ => ∃ n m, ds = [.ref n, .int m] ∧ cs n = some .drw ∧ 0 < m ∧ m < 2 ^ 200 ∧ ∀ r, 0 ≤ r → r < m → Q (.int r) cs
/-- an item of a list -/
def spOf : Spec := fun ds cs Q _ => ∃ n x xs, ds = [.ref n, x] ∧ cs n = some .drw ∧ (∀ s, x ≠ .str s) ∧ getQ x cs = some xs ∧ xs ≠ [] ∧ xs.length ≤ lim ∧ ∀ d ∈ xs, Q d cs
theorem pur_in {b : Bool} {k : Nat} {xs : List D} (h : (b && purs k xs) = true) : purs k xs = true := by
  rw [Bool.and_eq_true] at h
  exact h.2
theorem pur_len {n : Nat} {b : Bool} (h : (decide (n ≤ lim) && b) = true) : n ≤ lim := by
  rw [Bool.and_eq_true] at h
  exact of_decide_eq_true h.1
theorem asBools_true : ∀ (n : Nat), asBools (List.replicate n (.bl true)) = some (List.replicate n true)
  | 0 => rfl
  | n + 1 => by
    show (asBools (List.replicate n (.bl true))).map (true :: ·) = _
    rw [asBools_true n]
    rfl
end G

/-! GScr: the script cut; slices. -/
namespace G
open PySem PySem.Spec L2
open Evl (Ex)
section
variable {X : Cx} {W : WX} {pos p1 p2 : Pos} {e : Expr} {ce : E}
theorem ints_rp {K : PySem.W.Frag} {wd : Wd} : ∀ ns : List Int, RpL K wd (ns.map D.int) (ns.map V.int)
  | [] => rfl
  | n :: ns => ⟨_, _, rfl, rfl, ints_rp ns⟩
theorem sCutScr_inv {d : D} {cs : Cs} {Q : KD} {PX : KX} (h : sCutScr [d] cs Q PX) : d = .scr ∧ ∀ ns : List Int, ns.length ≤ 63 → (∀ n ∈ ns, n.natAbs < 2 ^ (2 ^ 20)) → Q (.lst (ns.map D.int)) cs := by
  unfold sCutScr at h
  split at h
  · rename_i e
    cases e
    exact ⟨rfl, h⟩
  · exact h.elim
theorem j_cutScr {j : Nat} (he : JE X W e ce) : JE X W (.Subscript e (.Slice none (some (.Constant (.int 63) j p2)) none p1) pos) (.app sCutScr (.cons ce .nil)) := by
  obtain ⟨te, p0, r0⟩ := he
  refine ⟨_, pe_slice sl_list p0 po_none (po_some pe_int), fun wd F τ cs σ H P PX Q R rs h q x => ?_⟩
  refine r0 wd F τ cs σ H _ PX _ R rs h (fun wd1 d c1 v H1 l1 R1 rv h1 => ?_) x
  obtain ⟨ed, h1⟩ := sCutScr_inv (PX := PX) h1
  subst ed
  obtain ⟨a, ns, ev, hs, hl, hb⟩ := rv
  have hcut : cutV (ns.map V.int) none (some 63) = (ns.take (min 63 ns.length)).map V.int := by
    unfold cutV
    simp [HT.sIx, List.map_take]
  refine ⟨63, rfl, a, ns.map V.int, ev, Evl.ex_l R1.b hs, fun p hp => ?_⟩
  rw [hcut]
  obtain ⟨wd2, l2, R2, r2⟩ := R1.lst hp (ints_rp (ns.take (min 63 ns.length)))
  exact q wd2 _ c1 _ _ (l1.trans l2) R2 r2 (h1 _ (by rw [List.length_take]; omega) fun n hn => hb n (List.mem_of_mem_take hn))
end
/-- a cell's content, told otherwise -/
theorem Rl.retell {K : PySem.W.Frag} {wd : Wd} {F H : Hp} {cs cs' : Cs} (R : Rl K wd F cs H) {n : Nat} {o' : Ob} (h : ∀ a u, wd.r n = some a → H a = some u → (∃ o, cs n = some o ∧ RpO K wd o u) → RpO K wd o' u) (hn : ∃ o, cs n = some o) (e' : cs' n = some o') (ne : ∀ m, m ≠ n → cs' m = cs m) : Rl K wd F cs' H := by
  refine ⟨R.b, R.f, R.bf, R.inj, fun m o e => ?_, R.ran, R.top, R.rf, R.fe, R.tab, R.bt⟩
  by_cases hm : m = n
  · subst hm
    rw [e'] at e
    cases e
    obtain ⟨o, ho⟩ := hn
    obtain ⟨a, u, f1, f2, f3, f4, f5⟩ := R.cell m o ho
    exact ⟨a, u, f1, f2, f3, f4, h a u f1 f4 ⟨o, ho, f5⟩⟩
  · rw [ne m hm] at e
    exact R.cell m o e
theorem drw_open {K : PySem.W.Frag} {wd : Wd} {u : HO} (h : RpO K wd .drw u) : ∃ ns p c z, DrwOk ns p c z ∧ RpO K wd (.lst (drwL ns p c z)) u := by
  obtain ⟨ns, p, c, z, a, e, hb, ok⟩ := h
  exact ⟨ns, p, c, z, ok, _, e, _, _, rfl, ⟨a, _, rfl, hb, ints_rp ns⟩, _, _, rfl, rfl, _, _, rfl, rfl, _, _, rfl, rfl, rfl⟩
theorem drw_close {K : PySem.W.Frag} {wd : Wd} {u : HO} {ns : List Int} {p c z : Int} (ok : DrwOk ns p c z) (h : RpO K wd (.lst (drwL ns p c z)) u) : RpO K wd .drw u := by
  obtain ⟨xs, e, v, r, e1, ⟨a, ws, ea, hb, hr⟩, v2, r2, e2, rfl, v3, r3, e3, rfl, v4, r4, e4, rfl, e5⟩ := h
  have : r4 = [] := e5
  subst this e4 e3 e2 e1 e ea
  have hw : ws = ns.map V.int := asInts_V hr (by
    have : ∀ l : List Int, asInts (iD l) = some l := by
      intro l
      induction l with
      | nil => rfl
      | cons x l ih =>
        show (asInts (iD l)).map (x :: ·) = _
        rw [ih]
        rfl
    exact this ns)
  subst hw
  exact ⟨ns, p, c, z, a, rfl, hb, ok⟩
section
variable {P : Program} {w : World} {K : PySem.W.Frag} {mg : Str → Option Value} {base : Heap} {k : Nat} {f : Addr} {fd : FuncData} {ps : List Str}
theorem seal_take (F : FnOk P w K mg base (L2N.CX P w) k f fd ps (lift K mg spTakeU)) : FnOk P w K mg base (L2N.CX P w) k f fd ps (lift K mg spTake) := by
  refine F.imp fun vs H Q E ⟨wd, F, cs, ds, PD, PX, R, r, hs, q, x⟩ => ?_
  obtain ⟨n, m, ed, hc, h0, h1, hk⟩ := hs
  obtain ⟨a, u, f1, f2, f3, f4, f5⟩ := R.cell n _ hc
  obtain ⟨ns, p, c, z, ok, ro⟩ := drw_open f5
  have R' : Rl K wd F (put cs n (.lst (drwL ns p c z))) H := R.retell (n := n) (fun a' u' g1 g2 _ => by
    have : a' = a := Option.some.inj (g1.symm.trans f1)
    subst this
    rw [f4] at g2
    cases g2
    exact ro) ⟨_, hc⟩ (if_pos rfl) fun m hm => if_neg hm
  refine ⟨wd, F, put cs n (.lst (drwL ns p c z)), ds, fun d cs' => (∃ p' c' z', DrwOk ns p' c' z' ∧ cs' = put cs n (.lst (drwL ns p' c' z'))) ∧ PD d cs, fun _ _ => False, R', r, ⟨n, m, ns, p, c, z, ed, if_pos rfl, ok, h0, h1, fun p' c' z' y ok' y0 y1 => ⟨⟨p', c', z', ok', put_put⟩, hk y y0 y1⟩⟩, fun wd' d cs' v H' l R2 rv ⟨⟨p', c', z', ok', e⟩, hp⟩ => ?_, fun _ _ _ _ _ _ _ _ _ z => z.elim⟩
  subst e
  refine q wd' d cs v H' l (R2.retell (n := n) (o' := .drw) (fun a' u' _ _ ⟨o, ho, hr⟩ => ?_) ⟨_, if_pos rfl⟩ hc fun m hm => (if_neg hm).symm) rv hp
  rw [put_same] at ho
  cases ho
  exact drw_close ok' hr
theorem seal_start (F : FnOk P w K mg base (L2N.CX P w) k f fd ps (lift K mg spStartU)) : FnOk P w K mg base (L2N.CX P w) k f fd ps (lift K mg spStart) := by
  refine F.imp fun vs H Q E ⟨wd, F, cs, ds, PD, PX, R, r, hs, q, x⟩ => ?_
  obtain ⟨ed, hk⟩ := hs
  refine ⟨wd, F, cs, ds, fun d cs' => ∃ n ns p c z, cs n = none ∧ DrwOk ns p c z ∧ d = .ref n ∧ cs' = put cs n (.lst (drwL ns p c z)), fun _ _ => False, R, r, ⟨ed, fun n ns p c z hn ok => ⟨n, ns, p, c, z, hn, ok, rfl, rfl⟩⟩, fun wd' d cs' v H' l R2 rv ⟨n, ns, p, c, z, hn, ok, e1, e2⟩ => ?_, fun _ _ _ _ _ _ _ _ _ z => z.elim⟩
  subst e1 e2
  refine q wd' (.ref n) (put cs n .drw) v H' l (R2.retell (n := n) (o' := .drw) (fun a' u' _ _ ⟨o, ho, hr⟩ => ?_) ⟨_, if_pos rfl⟩ put_same fun m hm => (if_neg hm).trans (if_neg hm).symm) rv (hk n hn)
  rw [put_same] at ho
  cases ho
  exact drw_close ok hr
end
end G

/-! GMore: slices, reversed, repeated, sorted lists; what is not reached. -/
namespace G
open PySem PySem.Spec L2
open Evl (Ex)
def cutD (xs : List D) (lo hi : Option Int) : List D := (xs.drop (sIxAt xs.length 0 lo)).take (sIxAt xs.length xs.length hi - sIxAt xs.length 0 lo)
def sSl (lo hi : Option Int) (x : D) (cs : Cs) (Q : KD) : Prop := match x with
  | .tup xs => ¬ (sIxAt xs.length 0 lo = 0 ∧ sIxAt xs.length xs.length hi = xs.length) ∧ Q (.tup (cutD xs lo hi)) cs
  | x => match getL x cs with
    | some xs => Q (.lst (cutD xs lo hi)) cs
    | none => False
def sCutHi : Spec := fun ds cs Q _ => match ds with
  | [x, .int i] => sSl none (some i) x cs Q
  | _ => False
def sCutLo : Spec := fun ds cs Q _ => match ds with
  | [x, .int i] => sSl (some i) none x cs Q
  | _ => False
def sIntId : Spec := fun ds cs Q _ => match ds with
  | [.int i] => Q (.int i) cs
  | _ => False
def sRev : Spec := fun ds cs Q _ => match ds with
  | [x] => match getL x cs with
    | some xs => Q (.lst xs.reverse) cs
    | none => False
  | _ => False
theorem RpL.reverse {K : PySem.W.Frag} {wd : Wd} : ∀ {ds : List D} {vs : List V}, RpL K wd ds vs → RpL K wd ds.reverse vs.reverse
  | [], vs, h => by
    have e : vs = [] := h
    subst e
    exact rfl
  | d :: ds, vs, h => by
    obtain ⟨v, r, e, a, b⟩ := h
    subst e
    rw [List.reverse_cons, List.reverse_cons]
    exact (RpL.reverse b).append ⟨v, [], rfl, a, rfl⟩
section
variable {X : Cx} {W : WX} {pos p1 p2 p3 p : Pos} {a b c e : Expr} {ca cb cc : E} {K : PySem.W.Frag}
theorem cut_rp {wd : Wd} {ds : List D} {vs : List V} (r : RpL K wd ds vs) (lo hi : Option Int) : RpL K wd (cutD ds lo hi) (cutV vs lo hi) := by
  have e : ∀ (n d : Nat) (o : Option Int), sIxAt n d o = HT.sIx n d o := fun n d o => by cases o <;> rfl
  unfold cutD cutV
  rw [r.length, e, e]
  exact (r.drop _).take _
theorem ref_sl {wd : Wd} {F H : Hp} {cs : Cs} {x : D} {v : V} {lo hi : Option Int} {P : KD} {Q : VK} (R : Rl K wd F cs H) (rv : Rp K wd x v) (h : sSl lo hi x cs P) (q : QOk K wd F P Q) : rSlL K v lo hi H Q ∨ rSlT K v lo hi H Q := by
  have byL : (match getL x cs with
      | some xs => P (.lst (cutD xs lo hi)) cs
      | none => False) → rSlL K v lo hi H Q := fun h => by
    cases ex : G.getL x cs with
    | none =>
      rw [ex] at h
      exact h.elim
    | some xs =>
      rw [ex] at h
      obtain ⟨a, ws, ev, hs, r⟩ := R.getL rv ex
      refine ⟨a, ws, ev, SqL.of hs, fun p hp => ?_⟩
      obtain ⟨wd2, l2, R2, r2⟩ := R.lst hp (cut_rp r lo hi)
      exact q wd2 _ cs _ _ l2 R2 r2 h
  cases x with
  | tup xs =>
    obtain ⟨a, ws, ev, hs, r⟩ := rv
    have e : ∀ (n d : Nat) (o : Option Int), sIxAt n d o = HT.sIx n d o := fun n d o => by cases o <;> rfl
    refine .inr ⟨a, ws, ev, SqT.of (R.b _ _ hs), ?_, fun p hp => ?_⟩
    · have h1 := h.1
      rw [e, e, ← r.length] at h1
      exact h1
    · obtain ⟨wd2, l2, R2, r2⟩ := R.tup hp (cut_rp r lo hi)
      exact q wd2 _ cs _ _ l2 R2 r2 h.2
  | lst xs => exact .inl (byL h)
  | ref n => exact .inl (byL h)
  | _ => exact h.elim
theorem sCutHi_inv {d e : D} {cs : Cs} {Q : KD} {PX : KX} (h : sCutHi [d, e] cs Q PX) : ∃ i, e = .int i ∧ sSl none (some i) d cs Q := by
  unfold sCutHi at h
  split at h
  · rename_i x i ee
    cases ee
    exact ⟨_, rfl, h⟩
  · exact h.elim
theorem sCutLo_inv {d e : D} {cs : Cs} {Q : KD} {PX : KX} (h : sCutLo [d, e] cs Q PX) : ∃ i, e = .int i ∧ sSl (some i) none d cs Q := by
  unfold sCutLo at h
  split at h
  · rename_i x i ee
    cases ee
    exact ⟨_, rfl, h⟩
  · exact h.elim
theorem j_cutHi (ha : JE X W a ca) (hb : JE X W b cb) : JE X W (.Subscript a (.Slice none (some b) none p2) pos) (.app sCutHi (.cons ca (.cons cb .nil))) := by
  obtain ⟨ta, q1, r1⟩ := ha
  obtain ⟨tb, q2, r2⟩ := hb
  refine ⟨_, pe_slice (sl_list.or sl_tup) q1 po_none (po_some q2), fun wd F τ cs σ H P PX Q R rs h q x => ?_⟩
  refine r1 wd F τ cs σ H _ PX _ R rs h (fun wd1 d c1 v H1 l1 R1 rv h1 => ?_) x
  refine r2 wd1 F τ c1 σ H1 _ PX _ R1 (rs.mono l1) h1 (fun wd2 e c2 u H2 l2 R2 ru h2 => ?_) (x.mono l1)
  obtain ⟨i, ei, h3⟩ := sCutHi_inv (PX := PX) h2
  subst ei
  exact ⟨i, ru, ref_sl R2 (rv.mono l2) h3 (q.mono (l1.trans l2))⟩
theorem j_cutLo (ha : JE X W a ca) (hb : JE X W b cb) : JE X W (.Subscript a (.Slice (some b) none none p2) pos) (.app sCutLo (.cons ca (.cons cb .nil))) := by
  obtain ⟨ta, q1, r1⟩ := ha
  obtain ⟨tb, q2, r2⟩ := hb
  refine ⟨_, pe_slice (sl_list.or sl_tup) q1 (po_some q2) po_none, fun wd F τ cs σ H P PX Q R rs h q x => ?_⟩
  refine r1 wd F τ cs σ H _ PX _ R rs h (fun wd1 d c1 v H1 l1 R1 rv h1 => ?_) x
  refine r2 wd1 F τ c1 σ H1 _ PX _ R1 (rs.mono l1) h1 (fun wd2 e c2 u H2 l2 R2 ru h2 => ?_) (x.mono l1)
  obtain ⟨i, ei, h3⟩ := sCutLo_inv (PX := PX) h2
  subst ei
  exact ⟨i, ru, ref_sl R2 (rv.mono l2) h3 (q.mono (l1.trans l2))⟩
end
end G

/-! GSplit: text.split(sep), int(text). -/
namespace L2
open PySem PySem.Spec PyProof.Rows
end L2
namespace G
open PySem PySem.Spec L2
open Evl (Ex)
def sIntS : Spec := fun ds cs Q _ => ∃ a n, ds = [.str a] ∧ PySem.intText? a = some n ∧ a.length ≤ 640 ∧ Q (.int n) cs
section
variable {X : Cx} {W : WX} {pos p p1 p2 apos : Pos} {o a : Expr} {co ca : E}
theorem refn_intS {K : PySem.W.Frag} : RefN K (fun xs H Q => ∃ a n, xs = [.str a] ∧ PySem.intText? a = some n ∧ a.length ≤ 640 ∧ Q (.int n) H) sIntS := by
  intro wd F cs H ds vs P PX Q R rv hs q
  obtain ⟨z, n, e, h1, h2, hP⟩ := hs
  subst e
  obtain ⟨v, vs', ev, r, rs⟩ := rv
  subst ev
  cases (show v = .str z from r)
  cases (show vs' = [] from rs)
  exact ⟨z, n, rfl, h1, h2, q wd (.int n) cs _ H (Wd.le.refl _) R rfl hP⟩
theorem j_intS (hg : Gl X "int") (hm : X.mg "int" = none) (ha : JE X W a ca) (h1 : starEach [a] X.env = (false, eval a X.env) :: starEach [] X.env := by rfl) : JE X W (.Call (.Name "int" p) [a] [] pos) (.app sIntS (.cons ca .nil)) :=
  j_bltnTy call_int_str refn_intS hg hm boot_intG (ja_cons ha ja_nil h1) (he := h1) (hpl := rfl)
end
end G

/-! GCutA: slices of lists, cells, tuples (the whole of a tuple too), texts. -/
namespace G
open PySem PySem.Spec L2
open Evl (Ex)
def sSlA (lo hi : Option Int) (x : D) (cs : Cs) (Q : KD) : Prop := match x with
  | .tup xs => Q (.tup (cutD xs lo hi)) cs
  | .str z => z.length ≤ lim ∧ Q (.str (Txt.slice z lo hi)) cs
  | x => match getL x cs with
    | some xs => Q (.lst (cutD xs lo hi)) cs
    | none => False
def sCutHiA : Spec := fun ds cs Q _ => ∃ x, ∃ i : Int, ds = [x, .int i] ∧ sSlA none (some i) x cs Q
def sCutLoA : Spec := fun ds cs Q _ => ∃ x, ∃ i : Int, ds = [x, .int i] ∧ sSlA (some i) none x cs Q
def sCutA : Spec := fun ds cs Q _ => ∃ x, ∃ i j : Int, ds = [x, .int i, .int j] ∧ sSlA (some i) (some j) x cs Q
section
variable {X : Cx} {W : WX} {pos p1 p2 p3 p : Pos} {a b c e : Expr} {ca cb cc : E} {K : PySem.W.Frag}
theorem cut_all {xs : List D} {lo hi : Option Int} (h : sIxAt xs.length 0 lo = 0 ∧ sIxAt xs.length xs.length hi = xs.length) : cutD xs lo hi = xs := by
  unfold cutD
  rw [h.1, h.2]
  simp
theorem ref_slA {wd : Wd} {F H : Hp} {cs : Cs} {x : D} {v : V} {lo hi : Option Int} {P : KD} {Q : VK} (R : Rl K wd F cs H) (rv : Rp K wd x v) (h : sSlA lo hi x cs P) (q : QOk K wd F P Q) : rSlL K v lo hi H Q ∨ rSlA K v lo hi H Q ∨ C8.rSlX v lo hi H Q := by
  have byL : (match getL x cs with
      | some xs => P (.lst (cutD xs lo hi)) cs
      | none => False) → rSlL K v lo hi H Q := fun h => by
    cases ex : G.getL x cs with
    | none =>
      rw [ex] at h
      exact h.elim
    | some xs =>
      rw [ex] at h
      obtain ⟨a, ws, ev, hs, r⟩ := R.getL rv ex
      refine ⟨a, ws, ev, SqL.of hs, fun p hp => ?_⟩
      obtain ⟨wd2, l2, R2, r2⟩ := R.lst hp (cut_rp r lo hi)
      exact q wd2 _ cs _ _ l2 R2 r2 h
  cases x with
  | tup xs =>
    obtain ⟨a, ws, ev, hs, r⟩ := id rv
    have e : ∀ (n d : Nat) (o : Option Int), sIxAt n d o = HT.sIx n d o := fun n d o => by cases o <;> rfl
    refine .inr (.inl ⟨a, ws, ev, SqT.of (R.b _ _ hs), fun hw => ?_, fun hw p hp => ?_⟩)
    · rw [← e, ← e, r.length] at hw
      have h : P (.tup (cutD xs lo hi)) cs := h
      rw [cut_all hw] at h
      subst ev
      exact q wd (.tup xs) cs _ H (Wd.le.refl _) R rv h
    · obtain ⟨wd2, l2, R2, r2⟩ := R.tup hp (cut_rp r lo hi)
      exact q wd2 _ cs _ _ l2 R2 r2 h
  | str z =>
    have ev : v = .str z := rv
    exact .inr (.inr ⟨z, ev, h.1, q wd (.str _) cs _ H (Wd.le.refl _) R rfl h.2⟩)
  | lst xs => exact .inl (byL h)
  | ref n => exact .inl (byL h)
  | _ => exact h.elim
theorem j_cutHiA (ha : JE X W a ca) (hb : JE X W b cb) : JE X W (.Subscript a (.Slice none (some b) none p2) pos) (.app sCutHiA (.cons ca (.cons cb .nil))) := by
  obtain ⟨ta, q1, r1⟩ := ha
  obtain ⟨tb, q2, r2⟩ := hb
  refine ⟨_, pe_slice (sl_list.or (sl_tupA.or C8.sl_txt)) q1 po_none (po_some q2), fun wd F τ cs σ H P PX Q R rs h q x => ?_⟩
  refine r1 wd F τ cs σ H _ PX _ R rs h (fun wd1 d c1 v H1 l1 R1 rv h1 => ?_) x
  refine r2 wd1 F τ c1 σ H1 _ PX _ R1 (rs.mono l1) h1 (fun wd2 e c2 u H2 l2 R2 ru h2 => ?_) (x.mono l1)
  obtain ⟨y, i, ei, h3⟩ := h2
  cases ei
  exact ⟨i, ru, ref_slA R2 (rv.mono l2) h3 (q.mono (l1.trans l2))⟩
theorem j_cutLoA (ha : JE X W a ca) (hb : JE X W b cb) : JE X W (.Subscript a (.Slice (some b) none none p2) pos) (.app sCutLoA (.cons ca (.cons cb .nil))) := by
  obtain ⟨ta, q1, r1⟩ := ha
  obtain ⟨tb, q2, r2⟩ := hb
  refine ⟨_, pe_slice (sl_list.or (sl_tupA.or C8.sl_txt)) q1 (po_some q2) po_none, fun wd F τ cs σ H P PX Q R rs h q x => ?_⟩
  refine r1 wd F τ cs σ H _ PX _ R rs h (fun wd1 d c1 v H1 l1 R1 rv h1 => ?_) x
  refine r2 wd1 F τ c1 σ H1 _ PX _ R1 (rs.mono l1) h1 (fun wd2 e c2 u H2 l2 R2 ru h2 => ?_) (x.mono l1)
  obtain ⟨y, i, ei, h3⟩ := h2
  cases ei
  exact ⟨i, ru, ref_slA R2 (rv.mono l2) h3 (q.mono (l1.trans l2))⟩
theorem j_cutA (ha : JE X W a ca) (hb : JE X W b cb) (hc : JE X W c cc) : JE X W (.Subscript a (.Slice (some b) (some c) none p2) pos) (.app sCutA (.cons ca (.cons (.app sIntId (.cons cb .nil)) (.cons cc .nil)))) := by
  obtain ⟨ta, q1, r1⟩ := ha
  obtain ⟨tb, q2, r2⟩ := hb
  obtain ⟨tc, q3, r3⟩ := hc
  refine ⟨_, pe_slice (sl_list.or (sl_tupA.or C8.sl_txt)) q1 (po_some q2) (po_some q3), fun wd F τ cs σ H P PX Q R rs h q x => ?_⟩
  refine r1 wd F τ cs σ H _ PX _ R rs h (fun wd1 d c1 v H1 l1 R1 rv h1 => ?_) x
  refine r2 wd1 F τ c1 σ H1 _ PX _ R1 (rs.mono l1) h1 (fun wd2 e c2 u H2 l2 R2 ru h2 => ?_) (x.mono l1)
  have hmono : RS X.K wd2 τ σ := (rs.mono l1).mono l2
  cases e with
  | int i =>
    have h2 : wpEs (.cons cc .nil) τ c2 (fun ds c3 => sCutA (d :: .int i :: ds) c3 P PX) PX := h2
    refine ⟨i, ru, ?_⟩
    refine r3 wd2 F τ c2 σ H2 _ PX _ R2 hmono h2 (fun wd3 f c3 w H3 l3 R3 rw_ h3 => ?_) (x.mono (l1.trans l2))
    obtain ⟨y, i', j, e, h4⟩ := h3
    cases e
    exact ⟨j, rw_, ref_slA R3 (rv.mono (l2.trans l3)) h4 (q.mono ((l1.trans l2).trans l3))⟩
  | _ => exact h2.elim
end
end G

namespace G
open PySem (Str)
def c_take_1 : S := (.asg (.nm 2) (.app sIx (.cons (.app sIx (.cons (.v 0) (.cons (.c (.int 0)) .nil))) (.cons (.app sIx (.cons (.v 0) (.cons (.c (.int 1)) .nil))) .nil))))
def c_take_2 : S := (.exp (.app sSetIx (.cons (.app sAdd (.cons (.app sIx (.cons (.v 0) (.cons (.c (.int 1)) .nil))) (.cons (.c (.int 1)) .nil))) (.cons (.v 0) (.cons (.c (.int 1)) .nil)))))
def c_take_3 : S := (.exp (.app sSetIx (.cons (.c (.int 0)) (.cons (.v 0) (.cons (.c (.int 2)) .nil)))))
def c_take_4 : S := (.exp (.app sSetIx (.cons (.v 2) (.cons (.v 0) (.cons (.c (.int 2)) .nil)))))
def c_take_5 : S := (.ite (.app sGe (.cons (.v 2) (.cons (.app sPow (.cons (.c (.int 10)) (.cons (.c (.int 18)) .nil))) .nil))) (c_take_4) .skip)
def c_take_6 : S := (.exp (.app sSetIx (.cons (.app sMod (.cons (.app sAdd (.cons (.app sAdd (.cons (.app sMul (.cons (.app sIx (.cons (.v 0) (.cons (.c (.int 3)) .nil))) (.cons (.c (.int 52711)) .nil))) (.cons (.app sMul (.cons (.app sMod (.cons (.v 2) (.cons (.c (.int 2305843009213693951)) .nil))) (.cons (.c (.int 7)) .nil))) .nil))) (.cons (.app sIx (.cons (.v 0) (.cons (.c (.int 1)) .nil))) .nil))) (.cons (.c (.int 2305843009213693951)) .nil))) (.cons (.v 0) (.cons (.c (.int 3)) .nil)))))
def c_take_7 : S := (.ite (.and (.app sLt (.cons (.app sIx (.cons (.v 0) (.cons (.c (.int 2)) .nil))) (.cons (.v 1) .nil))) (.app sLt (.cons (.app sIx (.cons (.v 0) (.cons (.c (.int 1)) .nil))) (.cons (.app sLen (.cons (.app sIx (.cons (.v 0) (.cons (.c (.int 0)) .nil))) .nil)) .nil)))) (.seq (c_take_1) (.seq (c_take_2) (.seq (c_take_3) (.seq (c_take_5) (c_take_6))))) .skip)
def c_take_8 : S := (.asg (.nm 3) (.app sMod (.cons (.app sIx (.cons (.v 0) (.cons (.c (.int 2)) .nil))) (.cons (.v 1) .nil))))
def c_take_9 : S := (.exp (.app sSetIx (.cons (.app sDiv (.cons (.app sIx (.cons (.v 0) (.cons (.c (.int 2)) .nil))) (.cons (.v 1) .nil))) (.cons (.v 0) (.cons (.c (.int 2)) .nil)))))
def c_take_10 : S := (.ret (.v 3))
def c_take_11 : S := (.ite (.app sGe (.cons (.app sIx (.cons (.v 0) (.cons (.c (.int 2)) .nil))) (.cons (.v 1) .nil))) (.seq (c_take_8) (.seq (c_take_9) (c_take_10))) .skip)
def c_take_12 : S := (.asg (.nm 4) (.app sMod (.cons (.app sMul (.cons (.app sIx (.cons (.v 0) (.cons (.c (.int 3)) .nil))) (.cons (.app sIx (.cons (.v 0) (.cons (.c (.int 3)) .nil))) .nil))) (.cons (.c (.int 2305843009213693951)) .nil))))
def c_take_13 : S := (.exp (.app sSetIx (.cons (.app sMod (.cons (.app sAdd (.cons (.app sAdd (.cons (.app sMul (.cons (.v 4) (.cons (.c (.int 48271)) .nil))) (.cons (.app sMul (.cons (.app sIx (.cons (.v 0) (.cons (.c (.int 3)) .nil))) (.cons (.c (.int 16807)) .nil))) .nil))) (.cons (.c (.int 12345)) .nil))) (.cons (.c (.int 2305843009213693951)) .nil))) (.cons (.v 0) (.cons (.c (.int 3)) .nil)))))
def c_take_14 : S := (.ret (.app sMod (.cons (.app sDiv (.cons (.app sIx (.cons (.v 0) (.cons (.c (.int 3)) .nil))) (.cons (.c (.int 1021)) .nil))) (.cons (.v 1) .nil))))
def c_take : S := (.seq (c_take_7) (.seq (c_take_11) (.seq (c_take_12) (.seq (c_take_13) (c_take_14)))))
theorem mulOk_r {i j : Int} (h : -(2 ^ 64) < j ∧ j < 2 ^ 64) : mulOk i j := .inr (.inl h)
theorem DrwOk.set {ns : List Int} {p c z : Int} (ok : DrwOk ns p c z) {p' c' z' : Int} (hp : 0 ≤ p') (hc : 0 ≤ c') (hz : 0 ≤ z') (hz1 : z' < 2305843009213693951) : DrwOk ns p' c' z' := ⟨ok.len, ok.big, hp, hc, hz, hz1⟩
theorem take_log {m : Int} (h : 0 < m) (h2 : m < 2 ^ 200) : m.natAbs.log2 < 9000 := by
  have : m.natAbs ≠ 0 := by omega
  exact Nat.lt_trans ((Nat.log2_lt this).mpr (show m.natAbs < 2 ^ 200 by omega)) (by decide)
theorem take_tail {cs : Cs} {Q : KD} {X : KX} {n : Nat} {m : Int} {ns : List Int} {p c z : Int} {t2 : Option D} (hc : cs n = some (.lst (drwL ns p c z))) (ok : DrwOk ns p c z) (hm : 0 < m) (hm2 : m < 2 ^ 200)
    (k : ∀ p' c' z' r, DrwOk ns p' c' z' → 0 ≤ r → r < m → Q (.int r) (put cs n (.lst (drwL ns p' c' z')))) :
    wpS (.seq c_take_11 (.seq c_take_12 (.seq c_take_13 c_take_14))) [some (.ref n), some (.int m), t2, none, none] cs { nx := fun _ cs' => Q .non cs', rt := Q, ex := fun x _ cs' => X x cs' } := by
  have z0 := ok.z0
  have z1 := ok.z1
  have r0 : ∀ x : Int, 0 ≤ x % m := fun x => Int.emod_nonneg _ (by omega)
  have r1 : ∀ x : Int, x % m < m := fun x => Int.emod_lt_of_pos _ hm
  have q0 : ∀ x : Int, 0 ≤ x % 2305843009213693951 := fun x => Int.emod_nonneg _ (by decide)
  have q1 : ∀ x : Int, x % 2305843009213693951 < 2305843009213693951 := fun x => Int.emod_lt_of_pos _ (by decide)
  simp only [wpS]
  rw [c_take_11]
  simp [hc, drwL]
  split
  · rw [c_take_8, c_take_9, c_take_10]
    simp [hc, drwL]
    refine ⟨hm, ⟨hm, take_log hm hm2⟩, ?_⟩
    exact k p (c / m) z (c % m) (ok.set ok.p0 (Int.ediv_nonneg ok.c0 (by omega)) z0 z1) (r0 _) (r1 _)
  · rw [c_take_12, c_take_13, c_take_14]
    simp [hc, drwL]
    refine ⟨mulOk_r (by omega), mulOk_r (by omega), mulOk_r (by omega), ⟨by decide, by decide⟩, hm, ?_⟩
    exact k p c _ _ (ok.set ok.p0 ok.c0 (q0 _) (q1 _)) (r0 _) (r1 _)
theorem ok_take : okFn 5 c_take spTakeU := by
  rintro ds cs Q X ⟨n, m, ns, p, c, z, rfl, hc, ok, hm, hm2, k⟩
  show wpS (.seq c_take_7 (.seq c_take_11 (.seq c_take_12 (.seq c_take_13 c_take_14)))) [some (.ref n), some (.int m), none, none, none] cs _
  have p0 := ok.p0
  have z0 := ok.z0
  have z1 := ok.z1
  have q0 : ∀ x : Int, 0 ≤ x % 2305843009213693951 := fun x => Int.emod_nonneg _ (by decide)
  have q1 : ∀ x : Int, x % 2305843009213693951 < 2305843009213693951 := fun x => Int.emod_lt_of_pos _ (by decide)
  have tl := fun (cs' : Cs) (t2 : Option D) (p' c' z' : Int) (hc' : cs' n = some (.lst (drwL ns p' c' z'))) (ok' : DrwOk ns p' c' z') (k' : ∀ p' c' z' r, DrwOk ns p' c' z' → 0 ≤ r → r < m → Q (.int r) (put cs' n (.lst (drwL ns p' c' z')))) => take_tail (X := X) (t2 := t2) hc' ok' hm hm2 k'
  simp only [wpS] at tl
  simp only [wpS]
  rw [c_take_7]
  simp [hc, drwL]
  split
  · split
    · rename_i h1 h2
      obtain ⟨j, rfl⟩ : ∃ j : Nat, p = j := ⟨p.toNat, by omega⟩
      have hl : (iD ns).length = ns.length := by simp [iD]
      have hj : j < ns.length := by omega
      have hix : ix (iD ns) (j : Int) = some (.int ns[j]) := ix_nat (by simp [iD, hj])
      rw [c_take_1, c_take_2, c_take_3]
      simp [hc, drwL, hix]
      rw [c_take_5]
      simp [hc, drwL, hix]
      refine ⟨by unfold powOk; omega, ?_⟩
      split
      · rw [c_take_4, c_take_6]
        simp [hc, drwL, hix]
        refine ⟨mulOk_r (by omega), mulOk_r (by omega), ?_⟩
        refine tl _ _ _ _ _ put_same (ok.set (by omega) (by omega) (q0 _) (q1 _)) fun p' c' z' r o' a b => ?_
        rw [put_put]
        exact k p' c' z' r o' a b
      · rw [c_take_6]
        simp [hc, drwL, hix]
        refine ⟨mulOk_r (by omega), mulOk_r (by omega), ?_⟩
        refine tl _ _ _ _ _ put_same (ok.set (by omega) (by omega) (q0 _) (q1 _)) fun p' c' z' r o' a b => ?_
        rw [put_put]
        exact k p' c' z' r o' a b
    · exact tl _ _ _ _ _ hc ok k
  · exact tl _ _ _ _ _ hc ok k
end G

namespace G
open PySem (Str)
def c_of_1 (p__law_take : G.Spec) : S := (.ret (.app sIx (.cons (.v 1) (.cons (.app p__law_take (.cons (.v 0) (.cons (.app sLen (.cons (.v 1) .nil)) .nil))) .nil))))
def c_of (p__law_take : G.Spec) : S := (c_of_1 p__law_take)
def c_same_1 (p__law_same : G.Spec) : S := (.ret (.app sIsN (.cons (.v 0) (.cons (.c .non) .nil))))
def c_same_2 (p__law_same : G.Spec) : S := (.ite (.app sIsN (.cons (.v 1) (.cons (.c .non) .nil))) (c_same_1 p__law_same) .skip)
def c_same_3 (p__law_same : G.Spec) : S := (.ret (.c (.bl false)))
def c_same_4 (p__law_same : G.Spec) : S := (.ite (.or (.app sNe (.cons (.app (sIsi .list) (.cons (.v 0) .nil)) (.cons (.app (sIsi .list) (.cons (.v 1) .nil)) .nil))) (.app sNe (.cons (.app (sIsi .tuple) (.cons (.v 0) .nil)) (.cons (.app (sIsi .tuple) (.cons (.v 1) .nil)) .nil)))) (c_same_3 p__law_same) .skip)
def c_same_5 (p__law_same : G.Spec) : S := (.ret (.and (.app sEq (.cons (.app sLen (.cons (.v 0) .nil)) (.cons (.app sLen (.cons (.v 1) .nil)) .nil))) (.app sAll (.cons (.comp false [2, 3] (.tup (.cons (.nm 2) (.cons (.nm 3) .nil))) iZip (.cons (.v 0) (.cons (.v 1) .nil)) (.c (.bl true)) (.app p__law_same (.cons (.v 2) (.cons (.v 3) .nil)))) .nil))))
def c_same_6 (p__law_same : G.Spec) : S := (.ite (.app (sIsi2 .list .tuple) (.cons (.v 1) .nil)) (.seq (c_same_4 p__law_same) (c_same_5 p__law_same)) .skip)
def c_same_7 (p__law_same : G.Spec) : S := (.ret (.c (.bl false)))
def c_same_8 (p__law_same : G.Spec) : S := (.ite (.or (.app sNe (.cons (.app (sIsi .bool) (.cons (.v 1) .nil)) (.cons (.app (sIsi .bool) (.cons (.v 0) .nil)) .nil))) (.app sNe (.cons (.app (sIsi .int) (.cons (.v 1) .nil)) (.cons (.app (sIsi .int) (.cons (.v 0) .nil)) .nil)))) (c_same_7 p__law_same) .skip)
def c_same_9 (p__law_same : G.Spec) : S := (.ret (.and (.app sEq (.cons (.app (sIsi .str) (.cons (.v 1) .nil)) (.cons (.app (sIsi .str) (.cons (.v 0) .nil)) .nil))) (.app sEq (.cons (.v 0) (.cons (.v 1) .nil)))))
def c_same (p__law_same : G.Spec) : S := (.seq (c_same_2 p__law_same) (.seq (c_same_6 p__law_same) (.seq (c_same_8 p__law_same) (c_same_9 p__law_same))))
theorem ok_of : okFn 2 (c_of spTake) spOf := by
  rintro ds cs Q X ⟨n, x, xs, rfl, hc, hx, hq, ne, hl, k⟩
  show wpS (c_of_1 spTake) [some (.ref n), some x] cs _
  rw [c_of_1]
  simp [sLen_e hx, hq]
  have l0 : 0 < xs.length := List.length_pos_iff.mpr ne
  refine ⟨n, xs.length, rfl, hc, by omega, by simp [lim] at hl; omega, fun r h0 h1 => ?_⟩
  obtain ⟨j, rfl⟩ : ∃ j : Nat, r = j := ⟨r.toNat, by omega⟩
  have hj : j < xs.length := by omega
  simp [hq, ix_nat (List.getElem?_eq_getElem hj)]
  exact k _ (List.getElem_mem hj)
@[simp] theorem sIsN_e {x : D} {cs : Cs} {Q : KD} {X : KX} : sIsN [x, .non] cs Q X = Q (.bl (isN x)) cs := rfl
@[simp] theorem sNotN_e {x : D} {cs : Cs} {Q : KD} {X : KX} : sNotN [x, .non] cs Q X = Q (.bl (!isN x)) cs := rfl
@[simp] theorem sIsi_e {t : Ty} {x : D} {cs : Cs} {Q : KD} {X : KX} : sIsi t [x] cs Q X = match isTy cs x t with
    | some b => Q (.bl b) cs
    | none => False := rfl
@[simp] theorem sIsi2_e {t t' : Ty} {x : D} {cs : Cs} {Q : KD} {X : KX} : sIsi2 t t' [x] cs Q X = match isTy cs x t, isTy cs x t' with
    | some a, some b => Q (.bl (a || b)) cs
    | _, _ => False := rfl
theorem sEq_e {x y : D} {cs : Cs} {Q : KD} {X : KX} : sEq [x, y] cs Q X = (pur 64 (deref cs x) = true ∧ pur 64 (deref cs y) = true ∧ Q (.bl (eqD (deref cs x) (deref cs y))) cs) := rfl
theorem sNe_e {x y : D} {cs : Cs} {Q : KD} {X : KX} : sNe [x, y] cs Q X = (pur 64 (deref cs x) = true ∧ pur 64 (deref cs y) = true ∧ Q (.bl (!eqD (deref cs x) (deref cs y))) cs) := rfl
@[simp] theorem sEq_i {i j : Int} {cs : Cs} {Q : KD} {X : KX} : sEq [.int i, .int j] cs Q X = Q (.bl (i == j)) cs := by simp [sEq, deref, pur, eqD]
@[simp] theorem sNe_i {i j : Int} {cs : Cs} {Q : KD} {X : KX} : sNe [.int i, .int j] cs Q X = Q (.bl (!(i == j))) cs := by simp [sNe, deref, pur, eqD]
@[simp] theorem sEq_b {i j : Bool} {cs : Cs} {Q : KD} {X : KX} : sEq [.bl i, .bl j] cs Q X = Q (.bl (i == j)) cs := by simp [sEq, deref, pur, eqD]
@[simp] theorem sNe_b {i j : Bool} {cs : Cs} {Q : KD} {X : KX} : sNe [.bl i, .bl j] cs Q X = Q (.bl (!(i == j))) cs := by simp [sNe, deref, pur, eqD]
@[simp] theorem sAll_e {x : D} {cs : Cs} {Q : KD} {X : KX} : sAll [x] cs Q X = match getL x cs with
    | some xs => match asBools xs with
      | some bs => Q (.bl (bs.all id)) cs
      | none => False
    | none => False := rfl
theorem map_const {α : Type} {d : D} : ∀ xs : List α, xs.map (fun _ => d) = List.replicate xs.length d
  | [] => rfl
  | x :: xs => by simp [map_const xs, List.replicate_succ]
end G

/-! GTxi: a text's sign at a place; an item of a list or of a text. -/
namespace G
open PySem PySem.Spec L2
def sIxA : Spec := fun ds cs Q X => (∃ z, ∃ i : Int, ∃ c, ds = [.str z, .int i] ∧ z.length ≤ lim ∧ atI z.cps.toList i = some c ∧ Q (.str ⟨#[c]⟩) cs) ∨ sIx ds cs Q X
section
variable {X : Cx} {W : WX} {pos : Pos} {a b : Expr} {ca cb : E}
def rIxAS (K : PySem.W.Frag) : R2 := fun x y H Q => rIxS x y H Q ∨ rIxA K x y H Q
theorem ref_ixA : Ref2 X.K (rIxAS X.K) sIxA := by
  intro wd F cs H x y v w P PX Q R rx ry hs q
  rcases hs with ⟨z, i, c, e, hl, hc, hP⟩ | hs
  · cases e
    have ev : v = .str z := rx
    have ew : w = .int i := ry
    exact .inl ⟨z, i, c, ev, ew, hl, hc, q wd (.str _) cs _ H (Wd.le.refl _) R rfl hP⟩
  · exact .inr (ref_ix wd F cs H x y v w P PX Q R rx ry hs q)
theorem j_ixA (ha : JE X W a ca) (hb : JE X W b cb) (hs : PlainIx b := by exact fun _ _ => rfl) : JE X W (.Subscript a b pos) (.app sIxA (.cons ca (.cons cb .nil))) := by
  obtain ⟨ta, p1, r1⟩ := ha
  obtain ⟨tb, p2, r2⟩ := hb
  exact ⟨_, pe_ix (ix_str.or (ix_list.or ix_tup)) p1 p2 hs, ref_bin ref_ixA r1 r2⟩
end
/-! an item drawn -/
end G

/-! GEnum: enumerate over lists and tuples. -/
namespace G
open PySem PySem.Spec L2
open Evl (Ex)
end G
namespace G
open PySem PySem.Spec L2
open Evl (Ex)
section
variable {X : Cx} {W : WX} {pos p tpos : Pos} {e : Expr} {ce : E} {elts : List Expr} {kk : Nat}
end
end G

/-! GSet: set(list of ints), sorted. -/
namespace G
open PySem PySem.Spec L2
section
variable {P : Program} {w : World} {A : Around} {E : Value → Shared → Prop} {s : Shared}
end
end G

/-! GSort: sorted(set(..)), sorted(..), [..] * n; what is not reached. -/
namespace G
open PySem PySem.Spec L2
open Evl (Ex)
/-- a statement that is not reached -/
def stuck : S := .asg .nil (.c .non)
@[simp] theorem stuck_wp {σ : Sl} {cs : Cs} {K : Ends} : wpS stuck σ cs K = False := rfl
section
variable {X : Cx} {W : WX} {pos p p' q : Pos} {a b e : Expr} {ca cb ce : E} {K : PySem.W.Frag}
end
end G

/-! GTxt: texts walked; one sign in a text. -/
namespace G
open PySem PySem.Spec L2
open Evl (Ex)
def sgD (x : Str) : List D := x.cps.toList.map fun c => .str ⟨#[c]⟩
def iStr : ISpec := fun ds _ R => ∃ x, ds = [.str x] ∧ R (sgD x) fun _ => True
/-- one sign in a text -/
def sInStr : Spec := fun ds cs Q _ => ∃ (c : Nat) (z : Str), ds = [.str ⟨#[c]⟩, .str z] ∧ Q (.bl (decide (c ∈ z.cps.toList))) cs
section
variable {X : Cx} {W : WX} {pos p : Pos} {e a b tg : Expr} {ce ca cb : E}
theorem ji_str (h : JE X W e ce) : JI X W tg e iStr (.cons ce .nil) := by
  obtain ⟨te, p1, r1⟩ := h
  refine ⟨_, pi_str p1, fun wd F τ cs σ H R' PX R Rr rs h k x => ?_⟩
  refine r1 wd F τ cs σ H _ PX _ Rr rs h (fun wd1 d c1 v H1 l1 R1 rv h1 => ?_) x
  obtain ⟨z, ed, h1⟩ := h1
  simp only [List.cons.injEq, and_true] at ed
  subst ed
  have ev : v = .str z := rv
  refine ⟨z, ev, k wd1 _ _ c1 _ H1 l1 R1 ⟨fun wd' F' cs' H' i d le R2 _ hd => ?_, fun wd' F' cs' H' le R2 _ => ?_⟩ h1⟩
  · unfold sgD at hd
    rw [List.getElem?_map] at hd
    obtain ⟨c, hc, rfl⟩ := Option.map_eq_some_iff.mp hd
    have hi : i < z.cps.toList.length := (List.getElem?_eq_some_iff.mp hc).1
    refine ⟨show i < z.cps.size by simpa using hi, fun xv H2 y => ?_⟩
    obtain ⟨eH, c', e1, ex⟩ := y
    have : c' = c := by
      rw [Array.getElem?_toList] at hc
      rw [hc] at e1
      exact (Option.some.inj e1).symm
    subst this eH ex
    exact ⟨wd', Wd.le.refl _, R2, rfl⟩
  · show z.cps.size ≤ (sgD z).length
    unfold sgD
    simp
theorem ref_inStr {K : PySem.W.Frag} : Ref2 K (fun x y H Q => ∃ (c : Nat) (z : Str), x = .str ⟨#[c]⟩ ∧ y = .str z ∧ Q (.bl (decide (c ∈ z.cps.toList))) H) sInStr := by
  intro wd F cs H x y v w P PX Q R rx ry hs q
  obtain ⟨c, z, ed, hP⟩ := hs
  simp only [List.cons.injEq, and_true] at ed
  obtain ⟨e1, e2⟩ := ed
  subst e1 e2
  exact ⟨c, z, rx, ry, q wd (.bl _) cs _ H (Wd.le.refl _) R rfl hP⟩
theorem j_inStr (ha : JE X W a ca) (hb : JE X W b cb) (hm : behindInMarks .In b = false := by rfl) : JE X W (.Compare a [.In] [b] pos) (.app sInStr (.cons ca (.cons cb .nil))) := j_cmp op_in_sign ref_inStr ha hb hm
end
end G

/-! GInD: in, not in over lists of trees. -/
namespace G
open PySem PySem.Spec L2
open Evl (Ex)
section
variable {X : Cx} {W : WX} {pos : Pos} {a b c e : Expr} {ca cb cc ce : E} {K : PySem.W.Frag}
end
end G

/-! GExc: own exceptions whose __init__ stores a tag and a field, over any built-in base; raise. -/
namespace G
open PySem PySem.Spec L2
open Evl (Ex)
/-- an own exception class over a built-in one -/
structure XcC (K : PySem.W.Frag) (C : Addr) : Prop where
  base : ∃ (B newId initId : String) (bmB : List Value), ExcBaseFacts B newId initId bmB ∧ StoreFacts B bmB "object.__setattr__" "object" ∧ PySem.W.excInitIn K C bmB newId = true ∧ PySem.W.excOver K C bmB = true
  hd : PySem.W.hasDictIn K C = true
  sa : PySem.W.findIn K (.ref C) "__setattr__" = some (some (.builtin "object.__setattr__"))
  exC : PySem.W.subIn K (.ref C) (.type "BaseException") = some true
  tyC : PySem.W.typeIn K (.ref C) = some (.type "type")
  kC : PySem.W.keepIn K (.ref C) = true
theorem xcB_ok {K : PySem.W.Frag} {C : Addr} (h : xcB K C = true) : XcC K C := by
  unfold xcB at h
  simp only [Bool.and_eq_true, decide_eq_true_eq] at h
  obtain ⟨h1, h2, h3, h4, h5, h6⟩ := h
  refine ⟨?_, h2, h3, h4, h5, h6⟩
  obtain ⟨q, hq, e⟩ := List.any_eq_true.mp h1
  rw [Bool.and_eq_true] at e
  simp only [xcBases, List.mem_cons, List.not_mem_nil, or_false] at hq
  rcases hq with hq | hq | hq
  · subst hq
    exact ⟨_, _, _, _, F.excBase_ValueError, F.store_ValueError, e.1, e.2⟩
  · subst hq
    exact ⟨_, _, _, _, F.excBase_LookupError, F.store_LookupError, e.1, e.2⟩
  · subst hq
    exact ⟨_, _, _, _, F.excBase_IndexError, F.store_IndexError, e.1, e.2⟩
theorem taker_none {K : PySem.W.Frag} {C : Addr} {f : Str} (h : PySem.W.findIn K (.ref C) f = some none) : PySem.W.takerIn K C f = some none := by
  unfold PySem.W.takerIn
  rw [h]
  rfl
theorem cls_hd {K : PySem.W.Frag} {C : Addr} (h : PySem.W.hasDictIn K C = true) : ∃ cd, PySem.W.clsIn K C = some cd ∧ cd.hasDict = true := by
  unfold PySem.W.hasDictIn at h
  cases e : PySem.W.clsIn K C with
  | none => rw [e] at h; cases h
  | some cd => rw [e] at h; exact ⟨cd, rfl, h⟩
section
variable {X : Cx} {pins : List (Addr × Obj)} {σ : St} {H : Hp} {s : Shared} {a C dx : Addr} {f : Str} {y : V} {u : Value} {fs : List (Str × V)} {Q : Unit → Shared → Prop} {E : Value → Shared → Prop} {A : Around}
/-- the first field of a new exception -/
theorem xs_new (T : XcC X.K C) (I : Inv X pins σ H s) (e : H a = some (exo a C none)) (hno : PySem.W.findIn X.K (.ref C) f = some none) (ry : RelV y u)
    (h : ∀ dx s', H dx = none → dx ≠ a → Inv X pins σ (upd (upd H dx (exd dx [(f, y)])) a (exo a C (some dx))) s' → Q () s') : wpAny (model X.prog X.w) A (setAttr (.ref a) f u) Q E s := by
  obtain ⟨B, newId, initId, bmB, FB, SF, T1, T2⟩ := T.base
  obtain ⟨cd, hcl, hdd⟩ := cls_hd T.hd
  obtain ⟨t1, ho⟩ := exo_at I.hok e
  obtain ⟨hp, g, d, t, os⟩ := s
  have hxs : a ≠ hp.objs.size := Nat.ne_of_lt (Heap.lt_size ho)
  have IA : PySem.W.InstAt hp a { cls := .ref C, dict := none, data := .fields #[.ref t1, .none, .none, .none, .bool false, .none] } C none := ⟨ho, rfl, rfl, trivial⟩
  refine PySem.W.set_plain I.kIn (ox := { cls := .ref C, dict := none, data := .fields #[.ref t1, .none, .none, .none, .bool false, .none] }) (od := none) IA T.sa ?_
  have fin : ∀ h' tk' dx, (∀ b o, b ≠ a → hp.get? b = some o → h'.get? b = some o) → hp.objs.size ≤ dx → dx ≠ a → h'.get? a = some ({ cls := .ref C, dict := some dx, data := .fields #[.ref t1, .none, .none, .none, .bool false, .none] } : Obj) →
      h'.Ns1 dx (fun z => if z = f then some u else none) → Q () ⟨h', g, d, tk', os⟩ := fun h' tk' dx k dn dne hx hn => by
    have hnd : H dx = none := I.hok.fresh dn
    have nd : ∀ {b : Addr} {o : Obj}, hp.get? b = some o → b ≠ dx := fun {b o} q => Nat.ne_of_lt (Nat.lt_of_lt_of_le (Heap.lt_size q) dn)
    have na : ∀ {b : Addr}, H b = none → b ≠ a := fun {b} n z => by
      rw [z, e] at n
      cases n
    have U : Un X.fs [] H (upd (upd H dx (exd dx [(f, y)])) a (exo a C (some dx))) hp h' := by
      constructor
      · exact fun b o q n _ _ => k b o (na n) q
      · exact fun b o q n _ _ => ⟨o.slots, k b o (na n) q⟩
      · exact fun b o q n _ => by rw [upd_ne (na n), upd_ne (nd q)]; exact n
      · intro b o q _
        by_cases hb : b = a
        · exact ⟨_, by rw [hb]; exact hx⟩
        · exact ⟨o, k b o hb q⟩
      · exact fun b xs q => by rw [upd_ne (at_ne e q exo_tup), upd_ne (ne_of_none q hnd)]; exact q
      · exact fun b o v q => by rw [upd_ne (at_ne e q exo_frz), upd_ne (ne_of_none q hnd)]; exact q
      · exact fun b ps q => ⟨#[], by rw [upd_ne (at_ne e q exo_tbl), upd_ne (ne_of_none q hnd), q]; simp⟩
    refine h dx _ hnd dne (I.un (t' := tk') U fun b o q => ?_)
    by_cases hb : b = a
    · subst hb
      rw [upd_same] at q
      cases q
      exact exo_ok hx
    · rw [upd_ne hb] at q
      by_cases hd : b = dx
      · subst hd
        rw [upd_same] at q
        cases q
        exact exd_ok hn (relO_put (fs := []) ry fun g => True.intro)
      · rw [upd_ne hd] at q
        refine (I.hok b o q).stay (fun c v hc z => k c v ?_ z) (fun c hc => ?_) (fun c xs hc => ?_)
        · rcases hc with hc | hc
          · rw [hc]
            exact hb
          · exact at_ne e hc exo_own
        · rw [upd_ne (at_ne e hc exo_own), upd_ne (ne_of_none hc hnd)]
          exact hc
        · rw [upd_ne (at_ne e hc exo_tup), upd_ne (ne_of_none hc hnd)]
          exact hc
  refine PySem.W.osa_openX (s := ⟨hp, g, d, t + 1, os⟩) SF I.kIn IA T2 (taker_none hno) fun b => ?_
  have hcls : PySem.W.Looks (model X.prog X.w) hp (classData C) cd := PySem.W.looks_clsIn I.kIn hcl
  obtain ⟨nm, bs, mro, ns, qn, hdc, sn, sb, ab, col, del⟩ := cd
  dsimp only at hdd
  subst hdd
  unfold Builtin.ObjectAttr.storeInOwnDict Builtin.ObjectAttr.ownDictForStores
  repeat (first | with_reducible refine PySem.HandSPX.store_in_new ?_ ?_ | with_reducible refine wpAny_loadPart_at ho ?_ | with_reducible refine hcls.at ?_ | wp_step)
  · exact ⟨_, #[], _, (Heap.get?_update_ne _ _ _ _ hxs.symm).trans (Heap.get?_push_at rfl rfl), rfl, fun e he => absurd he (by simp), fun _ => rfl⟩
  · intro h' tk' hn' hs
    have hx₁ : (hp.push { cls := .type "dict", data := .dict #[] }).get? a = some ({ cls := .ref C, dict := none, data := .fields #[.ref t1, .none, .none, .none, .bool false, .none] } : Obj) := Heap.get?_push_of_some _ ho
    refine fin h' tk' hp.objs.size (fun b o hb ho => ?_) (Nat.le_refl _) hxs.symm ?_ hn'
    · exact (hs.2 b (Nat.ne_of_lt (Heap.lt_size ho))).trans ((Heap.get?_update_ne _ _ _ _ hb).trans (Heap.get?_push_of_some _ ho))
    · exact (hs.2 a hxs).trans (Heap.get?_update_self _ hx₁ rfl)
/-- a further field -/
theorem xs_old (T : XcC X.K C) (I : Inv X pins σ H s) (e : H a = some (exo a C (some dx))) (ed : H dx = some (exd dx fs)) (hl : fs.length ≤ 900) (hno : PySem.W.findIn X.K (.ref C) f = some none) (ry : RelV y u)
    (h : ∀ s', Inv X pins σ (upd H dx (exd dx ((f, y) :: fs))) s' → Q () s') : wpAny (model X.prog X.w) A (setAttr (.ref a) f u) Q E s := by
  obtain ⟨B, newId, initId, bmB, FB, SF, T1, T2⟩ := T.base
  obtain ⟨cd, hcl, hdd⟩ := cls_hd T.hd
  obtain ⟨t1, ho⟩ := exo_at I.hok e
  obtain ⟨mA, hns, rel⟩ := exd_at I.hok ed
  have hw := within_of rel
  obtain ⟨hp, g, d, t, os⟩ := s
  obtain ⟨oD, _, _, hoD, _, _⟩ := hns.count hw
  have IA : PySem.W.InstAt hp a { cls := .ref C, dict := some dx, data := .fields #[.ref t1, .none, .none, .none, .bool false, .none] } C (some oD) := ⟨ho, rfl, rfl, hoD⟩
  refine PySem.W.set_plain I.kIn (ox := { cls := .ref C, dict := some dx, data := .fields #[.ref t1, .none, .none, .none, .bool false, .none] }) (od := some oD) IA T.sa ?_
  refine PySem.W.osa_openX (s := ⟨hp, g, d, t + 1, os⟩) SF I.kIn IA T2 (taker_none hno) fun b => ?_
  have hcls : PySem.W.Looks (model X.prog X.w) hp (classData C) cd := PySem.W.looks_clsIn I.kIn hcl
  obtain ⟨nm, bs, mro, ns, qn, hdc, sn, sb, ab, col, del⟩ := cd
  dsimp only at hdd
  subst hdd
  unfold Builtin.ObjectAttr.storeInOwnDict Builtin.ObjectAttr.ownDictForStores
  repeat (first | with_reducible refine PySem.OEX.store_in_old hns hw (by rw [List.length_map]; omega) ?_ | with_reducible refine wpAny_loadPart_at ho ?_ | with_reducible refine hcls.at ?_ | wp_step)
  intro h' tk' hn' hs
  have hd : ∃ o, h'.get? dx = some o := by
    obtain ⟨o, _, _, e', _⟩ := hn'
    exact ⟨o, e'⟩
  exact h _ (I.write (t' := tk') (x := dx) (e := dx) (o := exd dx ((f, y) :: fs)) (by rw [ed]; exact True.intro) (.inl rfl) (fun b o hb e => (hs.2 b hb).trans e) hd (exd_ok hn' (relO_put ry rel)))
end
/-! ### self.f = .., as a target -/
def gX (K : PySem.W.Frag) (f : Str) (to : TE) : TG := fun y σ H Q => to σ H fun x H2 => ∃ a C : Addr, x = .ref a ∧ XcC K C ∧ PySem.W.findIn K (.ref C) f = some none ∧
  ((H2 a = some (exo a C none) ∧ ∀ dx, H2 dx = none → dx ≠ a → Q σ (upd (upd H2 dx (exd dx [(f, y)])) a (exo a C (some dx)))) ∨
    ∃ (dx : Addr) (fs : List (Str × V)), H2 a = some (exo a C (some dx)) ∧ H2 dx = some (exd dx fs) ∧ fs.length ≤ 900 ∧ Q σ (upd H2 dx (exd dx ((f, y) :: fs))))
section
variable {X : Cx} {o e : Expr} {es : List Expr} {to te : TE} {ta : TA} {f : Str} {p p' pos : Pos}
theorem pg_x (ho : PE X o to) (ha : ∀ v, assign (.Attribute o f p') X.env v = (do
      let ov ← holding [v] (eval o X.env)
      standAt p'.atName
      holding [v, ov] (setAttr ov f v)
      release [v, ov] []) := by intro _; rfl) : PG X (.Attribute o f p') (gX X.K f to) := by
  refine ⟨fun pins s σ H v u Q I r h => ?_⟩
  rw [ha]
  refine wpAny_bind (wpAny_holding (thn (ho.run pins s σ H _ I h) fun ov s1 ⟨x, H1, I1, r1, a, C, ex, T, hno, q⟩ => ?_))
  subst ex
  obtain rfl : ov = Value.ref a := r1
  refine wpAny_bind (wpAny_standAt (wpAny_bind (wpAny_holding ?_)))
  rcases q with ⟨ea, q⟩ | ⟨dx, fs, ea, ed, hl, q⟩
  · exact xs_new T I1 ea hno r fun dx s' n ne J => wpAny_release ⟨σ, _, J, q dx n ne⟩
  · exact xs_old T I1 ea ed hl hno r fun s' J => wpAny_release ⟨σ, _, J, q⟩
/-! ### C(e, ..), C's own __init__ keeping sp -/
def tMkX (C : Addr) (sp : Sp) (ta : TA) : St → Hp → XK → Prop := fun σ H Q => ta σ H fun vs H1 => vs.length ≤ 1000 ∧ ∀ a, H1 a = none → sp (.ref a :: vs) (upd H1 a (exo a C none))
  (fun v H2 => v = .non ∧ ∃ (d : Addr) (fs : List (Str × V)), H2 a = some (exo a C (some d)) ∧ H2 d = some (exd d fs) ∧ H1 d = none ∧ Q (.ref C) (some d) (upd (L2.del H2 a) d (.xd fs))) (fun _ _ _ => False)
theorem mkx_run {C fI : Addr} {k : Nat} {fd : FuncData} {ps : List Str} {sp : Sp} {pins : List (Addr × Obj)} {σ : St} {H1 : Hp} {s1 : Shared} {us : List Value} {vs : List V} {Q : XK} (T : XcC X.K C) (iC : PySem.W.findIn X.K (.ref C) "__init__" = some (some (.ref fI))) (tI : PySem.W.typeIn X.K (.ref fI) = some (.type "function"))
    (F1 : FnOk X.prog X.w X.K X.mg X.base (L2N.CX X.prog X.w) k fI fd ps sp) (hr : Room (k + 1) X.A) (hb : Binds X.K fd ps []) (hx : Passes (L2N.CX X.prog X.w) X (fun _ _ _ => False)) (I1 : Inv X pins σ H1 s1) (r1 : Vals vs us) (hz : vs.length ≤ 1000)
    (q1 : ∀ a, H1 a = none → sp (.ref a :: vs) (upd H1 a (exo a C none)) (fun v H2 => v = .non ∧ ∃ (d : Addr) (fs : List (Str × V)), H2 a = some (exo a C (some d)) ∧ H2 d = some (exd d fs) ∧ H1 d = none ∧ Q (.ref C) (some d) (upd (L2.del H2 a) d (.xd fs))) (fun _ _ _ => False)) :
    wpAny (model X.prog X.w) X.A (call (.ref C) us) (L2N.MkP X pins σ Q) X.xe s1 := by
  obtain ⟨B, newId, initId, bmB, FB, SF, T1, T2⟩ := T.base
  obtain ⟨hp, g, dr, tk, os⟩ := s1
  obtain ⟨nm, N, qn, bs, bm, hdct, sn, sub, ab, col, dd, k0, k1, k2, k3, k5, hC, hT⟩ := PySem.W.excInit_of I1.kIn T1
  have hsz : hp.objs.size ≤ hp.objs.size + 1 := Nat.le_succ _
  have hn : H1 (hp.objs.size + 1) = none := I1.hok.fresh hsz
  have hq := q1 (hp.objs.size + 1) hn
  have kk : ∀ b o, hp.get? b = some o → ((hp.push (PySem.W.kdv_tup us)).push (PySem.HandSPX.excO C hp.objs.size)).get? b = some o := fun b o e => Heap.get?_push_of_some _ (Heap.get?_push_of_some _ e)
  have hget : ((hp.push (PySem.W.kdv_tup us)).push (PySem.HandSPX.excO C hp.objs.size)).get? (hp.objs.size + 1) = some (PySem.HandSPX.excO C hp.objs.size) := by heap_get
  have I2 : Inv X pins σ (upd H1 (hp.objs.size + 1) (exo (hp.objs.size + 1) C none)) ⟨(hp.push (PySem.W.kdv_tup us)).push (PySem.HandSPX.excO C hp.objs.size), g, dr, tk, os⟩ :=
    I1.laid (t' := tk) (a := hp.objs.size + 1) (o := exo (hp.objs.size + 1) C none) (h' := (hp.push (PySem.W.kdv_tup us)).push (PySem.HandSPX.excO C hp.objs.size)) kk hsz (exo_ok hget)
  have r2 : Vals (V.ref (hp.objs.size + 1) :: vs) (Value.ref (hp.objs.size + 1) :: us) := .cons rfl r1
  have hl : (Value.ref (hp.objs.size + 1) :: us).length = ps.length := by
    have e := r2.length
    rw [F1.len _ _ _ _ hq] at e
    exact e.symm
  have hus : us.length ≤ sizeLine := by
    rw [← Paired.length r1, sizeLine_eq]
    omega
  have bb := hb _ (Value.ref (hp.objs.size + 1) :: us) I2.kIn (by rw [List.append_nil]; exact hl)
  rw [List.append_nil] at bb
  refine wpAny_call (PySem.HandSPX.call_own FB hT hC (PySem.W.looks_findIn I1.kIn iC) (fun self => PySem.W.bind_fn I1.kIn self tI) hus
    (codeAny_mono (F1.run _ X.stack _ _ ⟨Value.ref (hp.objs.size + 1) :: us, []⟩ (Value.ref (hp.objs.size + 1) :: us) _ _ (fun _ _ _ => False) (hr.make C us []) (I2.env0.make C us []) bb r2 hq) fun r s' hq' => ?_))
  cases r with
  | error er => exact hx pins σ _ _ er s' I2 hq'
  | ok fl =>
    cases fl with
    | ret u =>
      obtain ⟨v, H2, os2, bare2, un2, hok2, rv, ev, d, fs, ea, ed, hd1, q2⟩ := hq'
      subst ev
      obtain ⟨h2, g2, d2, t2, os'⟩ := s'
      obtain ⟨t0, G, J, kG, ge, hoe, na⟩ := mk_end0 (d2 := d2) (t2 := t2) I1 hsz kk un2 hok2 os2 bare2 ea ed hd1
      exact ⟨rv, hp.objs.size + 1, _, _, ⟨G, g2, d2, t2, os'⟩, _, .ref C, some d, rfl, J, kG, ge, hoe, ⟨rfl, rfl, fun vs hv => by cases hv; rfl⟩, rfl, rfl, na, rfl, bare2, raises_own T.exC T.tyC, q2⟩
    | next => exact False.elim hq'
    | brk => exact False.elim hq'
    | cont => exact False.elim hq'
theorem pmk_x {x : Str} {C fI : Addr} {k : Nat} {fd : FuncData} {ps : List Str} {sp : Sp} (T : XcC X.K C) (iC : PySem.W.findIn X.K (.ref C) "__init__" = some (some (.ref fI))) (tI : PySem.W.typeIn X.K (.ref fI) = some (.type "function"))
    (F1 : FnOk X.prog X.w X.K X.mg X.base (L2N.CX X.prog X.w) k fI fd ps sp) (hr : Room (k + 1) X.A) (hb : Binds X.K fd ps []) (hx : Passes (L2N.CX X.prog X.w) X (fun _ _ _ => False)) (hg : Gl X x) (hm : X.mg x = some (.ref C)) (ha : PA X (e :: es) ta)
    (hdb : (x == ("__debug__" : Str)) = false := by decide) (he : starEach (e :: es) X.env = (false, eval e X.env) :: starEach es X.env := by rfl) (hpl : (backTo pos (starEach es X.env)).any (·.1) = false := by rfl) :
    L2N.PMk X (.Call (.Name x p) (e :: es) [] pos) (tMkX C sp ta) := by
  intro pins s σ H Q I h
  refine wpAny_Call_Name_kw (ld_glob I hg hm ?_ hdb)
  refine PySem.W.callWith_K (h₀ := X.base) I.ok.mod.kin T.kC (thn (ha.run pos pins s σ H _ I h) fun us s1 ⟨vs, H1, I1, r1, hz, q1⟩ => ⟨I1.kIn, ?_⟩) he hpl
  exact mkx_run T iC tI F1 hr hb hx I1 r1 hz q1
end
end G

/-! GRaise: an error's __init__, raise. -/
namespace G
open PySem PySem.Spec L2
open Evl (Ex)
/-- what the written part says of an error class with the field f -/
structure XcF (K : PySem.W.Frag) (C : Addr) (f : Str) : Prop where
  c : XcC K C
  tg : PySem.W.findIn K (.ref C) "tag" = some none
  fl : PySem.W.findIn K (.ref C) f = some none
/-- the __init__ of an error x with the field f -/
def spIni (K : PySem.W.Frag) (x f : Str) : Sp := fun vs H Q E => ∃ a C v, vs = [.ref a, v] ∧ XcF K C f ∧ H a = some (exo a C none) ∧
  ∀ p d, H p = none → upd H p (.tup [.str x, v]) d = none → Q .non (upd (upd (upd (upd H p (.tup [.str x, v])) d (exd d [("tag", .str x)])) a (exo a C (some d))) d (exd d [(f, v), ("tag", .str x)]))
def spIni0 (K : PySem.W.Frag) (x : Str) : Sp := fun vs H Q E => ∃ a C, vs = [.ref a] ∧ XcF K C "tag" ∧ H a = some (exo a C none) ∧
  ∀ d, H d = none → Q .non (upd (upd H d (exd d [("tag", .str x)])) a (exo a C (some d)))
theorem sw_none {a b x y : Expr} {f g : Str} {p1 p2 p3 p4 : Pos} {k1 k2 : Nat} {env : Env} : swappedStores [.Tuple [.Attribute a f p1, .Attribute b g p2] k1 p3] (.Tuple [x, y] k2 p4) env = pure none := by
  unfold swappedStores
  simp only [List.filterMap_cons, List.filterMap_nil]
  split
  · rfl
  · split
    · rfl
    · rfl
section
variable {P : Program} {w : World} {K : PySem.W.Frag} {mg : Str → Option Value} {base : Heap} {x qual f pn : Str} {params : Arguments} {scope : Scope} {fI : Addr} {fd : FuncData} {p1 p2 p3 p4 p5 p6 p7 p8 p9 : Pos} {j k1 k2 : Nat}
theorem ini_ok {body : List Stmt} (FD : FunD K "__init__" qual params body scope [] [] fI fd) (S : FnScope ["self", pn] ["self", pn] scope)
    (hv : scope.names.lookup ("self" : Str) = some .local) (hv2 : scope.names.lookup pn = some .local) (hb : body = [.Assign [.Tuple [.Attribute (.Name "self" p1) "tag" p2, .Attribute (.Name "self" p3) f p4] k1 p5] (.Tuple [.Constant (.str x) j p6, .Name pn p7] k2 p8) p9])
    (hd : (pn == ("__debug__" : Str)) = false := by decide) (hcd : (pn == ("__classdict__" : Str)) = false := by decide) : FnOk P w K mg base (L2N.CX P w) 1 fI fd ["self", pn] (spIni K x f) := by
  subst hb
  refine FD.ok S (fun vs H Q E h => ?_) fun cdv A outer s H vs Q E hr h => ?_
  · obtain ⟨a, C, v, e, _⟩ := h
    rw [e]
    rfl
  · obtain ⟨a, C, v, ev, T, ha, q⟩ := h
    subst ev
    refine ⟨_, pss_one (ps_asg (pe_tup (pa_cons pe_str (pa_cons (pe_var (i := 1) rfl (.inl hv2) hd hcd) pa_nil))) (pg_tup rfl (pgs_cons (pg_x (pe_var (i := 0) rfl (.inl hv))) (pgs_cons (pg_x (pe_var (i := 0) rfl (.inl hv))) pgs_nil))) rfl sw_none), ?_⟩
    refine ⟨v, rfl, by show 2 ≤ sizeLine; rw [sizeLine_eq]; decide, fun p hp => ⟨p, _, rfl, SqT.of upd_same, rfl, .str x, [v], rfl, .ref a, rfl, a, C, rfl, T.c, T.tg, .inl ⟨?_, fun d hd ne => ⟨v, [], rfl, .ref a, rfl, a, C, rfl, T.c, T.fl, .inr ⟨d, [("tag", .str x)], upd_same, ?_, Nat.le_of_ble_eq_true rfl, rfl, ?_⟩⟩⟩⟩⟩
    · rw [upd_ne (ne_of_none ha hp)]
      exact ha
    · rw [upd_ne ne, upd_same]
    · exact q p d hp hd
/-- an error class by its name: its field, its __init__ -/
structure Xc (P : Program) (w : World) (K : PySem.W.Frag) (mg : Str → Option Value) (base : Heap) (x f : Str) : Prop where
  ex : ∃ C fI fd ps, mg x = some (.ref C) ∧ XcF K C f ∧ PySem.W.findIn K (.ref C) "__init__" = some (some (.ref fI)) ∧ PySem.W.typeIn K (.ref fI) = some (.type "function") ∧ FnOk P w K mg base (L2N.CX P w) 1 fI fd ps (spIni K x f) ∧ L2.Binds K fd ps []
structure Xc0 (P : Program) (w : World) (K : PySem.W.Frag) (mg : Str → Option Value) (base : Heap) (x : Str) : Prop where
  ex : ∃ C fI fd ps, mg x = some (.ref C) ∧ XcF K C "tag" ∧ PySem.W.findIn K (.ref C) "__init__" = some (some (.ref fI)) ∧ PySem.W.typeIn K (.ref fI) = some (.type "function") ∧ FnOk P w K mg base (L2N.CX P w) 1 fI fd ps (spIni0 K x) ∧ L2.Binds K fd ps []
end
section
variable {X : Cx} {W : WX} {e : Expr} {ce : E} {p pos pos' : Pos} {x f : Str}
theorem takes_false (tk : L2N.Takes X W) : Passes (L2N.CX X.prog X.w) X (fun _ _ _ => False) := fun pins σ H s er s' I c => tk er s' (L2N.XE.of_call I (fun _ _ _ z => z.elim) c)
theorem hend {H : Hp} {a p d : Addr} {t : HO} {u1 u2 u3 : HO} {o : HO} {fs : HO} (ha : H a = none) (hp : upd H a o p = none) (hd : upd (upd H a o) p t d = none) : upd (L2.del (upd (upd (upd (upd (upd H a o) p t) d u1) a u2) d u3) a) d fs = upd (upd H p t) d fs := by
  have pa : p ≠ a := fun z => by
    subst z
    rw [upd_same] at hp
    cases hp
  have dp : d ≠ p := fun z => by
    subst z
    rw [upd_same] at hd
    cases hd
  funext b
  by_cases hb : b = d
  · subst hb
    rw [upd_same, upd_same]
  · rw [upd_ne hb, upd_ne hb]
    by_cases hba : b = a
    · subst hba
      rw [L2.del_same, upd_ne (Ne.symm pa), ha]
    · rw [L2.del_ne hba, upd_ne hb, upd_ne hba, upd_ne hb]
      by_cases hbp : b = p
      · subst hbp
        rw [upd_same, upd_same]
      · rw [upd_ne hbp, upd_ne hbp, upd_ne hba]
/-- raise X(e) -/
theorem js_raise (XC : Xc X.prog X.w X.K X.mg X.base x f) (hr : Room 2 X.A) (tk : L2N.Takes X W) (hc : X.calm = true) (hg : Gl X x) (he : JE X W e ce) (hdb : (x == ("__debug__" : Str)) = false := by decide)
    (hs : starEach [e] X.env = (false, eval e X.env) :: starEach [] X.env := by rfl) (hpl : (backTo pos (starEach [] X.env)).any (·.1) = false := by rfl) :
    JS X W (.Raise (some (.Call (.Name x p) [e] [] pos)) none pos') (.rse (fun ds => er x f (ds.headD .non)) (.cons ce .nil)) := by
  obtain ⟨C, fI, fd, ps, hm, T, iC, tI, F1, hb⟩ := XC.ex
  obtain ⟨ta, p1, r1⟩ := ja_cons he ja_nil hs
  refine ⟨_, L2N.ps_raise hc tk (pmk_x T.c iC tI F1 hr hb (takes_false tk) hg hm p1 hdb hs hpl), fun wd F τ cs σ H P Q R rs h q => ?_⟩
  have h : wpEs (.cons ce .nil) τ cs (fun ds cs' => P.ex (er x f (ds.headD .non)) τ cs') (fun y cs' => P.ex y τ cs') := h
  refine r1 wd F τ cs σ H (fun ds cs' => (∃ d, ds = [d]) ∧ P.ex (er x f (ds.headD .non)) τ cs') _ _ R rs ?_ (fun wd1 ds c1 vs H1 l1 R1 rv h1 => ?_) (q.xok rs)
  · show wpE ce τ cs (fun d c1 => (∃ d', [d] = [d']) ∧ P.ex (er x f (([d] : List D).headD .non)) τ c1) _
    have e : (fun (d : D) (c1 : Cs) => (∃ d', [d] = [d']) ∧ P.ex (er x f (([d] : List D).headD .non)) τ c1) = fun d c1 => P.ex (er x f (([d] : List D).headD .non)) τ c1 := by
      funext d c1
      exact propext ⟨fun z => z.2, fun z => ⟨⟨d, rfl⟩, z⟩⟩
    rw [e]
    exact h
  · obtain ⟨⟨d, ed⟩, h1⟩ := h1
    subst ed
    obtain ⟨v, ev, rv1⟩ := rv.one
    subst ev
    refine ⟨Nat.le_of_ble_eq_true rfl, fun a ha => ⟨a, C, v, rfl, T, upd_same, fun pp dd hp hd => ⟨rfl, dd, _, ?_, upd_same, ?_, ?_⟩⟩⟩
    · have da : a ≠ dd := fun z => by
        subst z
        have pa : a ≠ pp := ne_of_none (upd_same (H := H1) (o := exo a C none)) hp
        rw [upd_ne pa, upd_same] at hd
        cases hd
      rw [upd_ne da, upd_same]
    · have dp : dd ≠ pp := fun z => by
        subst z
        rw [upd_same] at hd
        cases hd
      rw [upd_ne dp] at hd
      have da : dd ≠ a := fun z => by
        subst z
        rw [upd_same] at hd
        cases hd
      rw [upd_ne da] at hd
      exact hd
    · rw [hend ha hp hd]
      have pa : pp ≠ a := fun z => by
        subst z
        rw [upd_same] at hp
        cases hp
      rw [upd_ne pa] at hp
      have dp : dd ≠ pp := fun z => by
        subst z
        rw [upd_same] at hd
        cases hd
      rw [upd_ne dp] at hd
      have da : dd ≠ a := fun z => by
        subst z
        rw [upd_same] at hd
        cases hd
      rw [upd_ne da] at hd
      obtain ⟨R2, l2⟩ := R1.new hp (.tup [.str x, v])
      have hd2 : upd H1 pp (.tup [.str x, v]) dd = none := by rw [upd_ne dp]; exact hd
      obtain ⟨R3, l3⟩ := R2.new hd2 (.xd [(f, v), ("tag", .str x)])
      refine q.ex _ (er x f d) τ c1 σ _ _ _ (l1.trans (l2.trans l3)) R3 (rs.mono (l1.trans (l2.trans l3))) ⟨C, dd, [(f, v), ("tag", .str x)], hm, rfl, rfl, upd_same, rfl, ?_⟩ h1
      exact ⟨v, [.str x], rfl, rv1.mono (l2.trans l3), .str x, [], rfl, rfl, rfl⟩
end
end G

/-! GRaise0: raise X() of an error class whose __init__ takes nothing. -/
namespace G
open PySem PySem.Spec PyProof.Rows L2
section
variable {X : Cx} {W : WX} {p pos pos' : Pos} {x : Str}
end
end G

/-! GLaw: the laws' helpers, as rewriting rules. -/
namespace G
open PySem (Str)
theorem spTake_e {n : Nat} {m : Int} {cs : Cs} {Q : KD} {X : KX} : spTake [.ref n, .int m] cs Q X = (cs n = some .drw ∧ 0 < m ∧ m < 2 ^ 200 ∧ ∀ r, 0 ≤ r → r < m → Q (.int r) cs) := by
  apply propext
  constructor
  · rintro ⟨_, _, h, hc, h0, h1, k⟩
    cases h
    exact ⟨hc, h0, h1, k⟩
  · rintro ⟨hc, h0, h1, k⟩
    exact ⟨_, _, rfl, hc, h0, h1, k⟩
theorem spOf_e {n : Nat} {x : D} {cs : Cs} {Q : KD} {X : KX} : spOf [.ref n, x] cs Q X = (cs n = some .drw ∧ (∀ s, x ≠ .str s) ∧ ∃ xs, getQ x cs = some xs ∧ xs ≠ [] ∧ xs.length ≤ lim ∧ ∀ d ∈ xs, Q d cs) := by
  apply propext
  constructor
  · rintro ⟨_, _, xs, h, hc, h1, h2, h3, h4, k⟩
    cases h
    exact ⟨hc, h1, xs, h2, h3, h4, k⟩
  · rintro ⟨hc, h1, xs, h2, h3, h4, k⟩
    exact ⟨_, _, _, rfl, hc, h1, h2, h3, h4, k⟩
theorem spStart_e {cs : Cs} {Q : KD} {X : KX} : spStart [.scr] cs Q X = (∀ n, cs n = none → Q (.ref n) (put cs n .drw)) := by
  apply propext
  constructor
  · rintro ⟨_, h⟩
    exact h
  · exact fun h => ⟨rfl, h⟩
@[simp] theorem sNot_e {b : Bool} {cs : Cs} {Q : KD} {X : KX} : sNot [.bl b] cs Q X = Q (.bl (!b)) cs := rfl
@[simp] theorem sNeg_e {i : Int} {cs : Cs} {Q : KD} {X : KX} : sNeg [.int i] cs Q X = Q (.int (-i)) cs := rfl
@[simp] theorem sList_e {ds : List D} {cs : Cs} {Q : KD} {X : KX} : sList ds cs Q X = (ds.length ≤ lim ∧ Q (.lst ds) cs) := rfl
@[simp] theorem sTup_e {ds : List D} {cs : Cs} {Q : KD} {X : KX} : sTup ds cs Q X = (ds.length ≤ lim ∧ Q (.tup ds) cs) := rfl
@[simp] theorem sListM_e {ds : List D} {cs : Cs} {Q : KD} {X : KX} : sListM ds cs Q X = (ds.length ≤ lim ∧ ∀ n, cs n = none → Q (.ref n) (put cs n (.lst ds))) := rfl
@[simp] theorem sAdd_l {a b : List D} {cs : Cs} {Q : KD} {X : KX} : sAdd [.lst a, .lst b] cs Q X = (a.length + b.length ≤ lim ∧ Q (.lst (a ++ b)) cs) := rfl
theorem rgD_length {a b : Int} : (rgD a b).length = (b - a).toNat := by simp [rgD]
theorem rgD_get {a b : Int} {j : Nat} {x : D} (h : (rgD a b)[j]? = some x) : x = .int (a + j) := by
  unfold rgD at h
  rw [List.getElem?_map] at h
  cases e : (List.range (b - a).toNat)[j]? with
  | none =>
    rw [e] at h
    cases h
  | some i =>
    rw [e] at h
    have h2 : i = j := by
      have := List.getElem?_eq_some_iff.mp e
      obtain ⟨h3, h4⟩ := this
      rw [List.getElem_range] at h4
      exact h4.symm
    subst h2
    exact (Option.some.inj h).symm
/-- a counting loop whose body changes the state by an invariant -/
theorem rng1_inv {i : Nat} {body : Sl → Cs → Ends → Prop} {K : Ends} {σ : Sl} {cs : Cs} {b : Int} (I : Nat → Sl → Cs → Prop) (lo : -(2 ^ 62) ≤ b) (hi : b < 2 ^ 62) (h0 : I 0 σ cs)
    (hs : ∀ (j : Nat) σ cs, (j : Int) < b → I j σ cs → ∀ K', (∀ σ' cs', I (j + 1) σ' cs' → K'.nx σ' cs') → (∀ σ' cs', I (j + 1) σ' cs' → K'.ct σ' cs') → K'.bk = K.bk ∨ K'.bk = K.nx → K'.rt = K.rt → K'.ex = K.ex → body (σ.set i (some (.int j))) cs K')
    (hd : ∀ σ cs, I b.toNat σ cs → K.nx σ cs) : iRng1 [.int b] cs fun items grd => forL (.nm i) grd body K items σ cs := by
  refine ⟨lo, hi, forL_inv I _ 0 h0 (fun _ _ _ _ _ _ => trivial) (fun j x σ cs hj hI => ?_) (fun σ cs h => hd σ cs ?_)⟩
  · have e := rgD_get hj
    subst e
    have hj2 : j < (rgD 0 b).length := (List.getElem?_eq_some_iff.mp hj).1
    rw [rgD_length] at hj2
    rw [Nat.zero_add] at hI
    refine ⟨_, rfl, fun K' a1 a2 a3 a4 a5 => ?_⟩
    rw [show ((0 : Int) + (j : Int)) = (j : Int) by omega]
    rw [Nat.zero_add] at a1 a2
    exact hs j σ cs (by omega) hI K' a1 a2 (.inr a3) a4 a5
  · rw [Nat.zero_add, rgD_length, Int.sub_zero] at h
    exact h
theorem powOk_c {i j : Int} (h : 0 ≤ j ∧ j ≤ 1000000 ∧ i.natAbs < 2 ^ 64) : powOk i j := h
/-! ### the start of a draw -/
def c_start_1 : S := (.ret (.app sListM (.cons (.app sListOf (.cons (.app sCutScr (.cons (.v 0) .nil)) .nil)) (.cons (.c (.int 0)) (.cons (.c (.int 0)) (.cons (.app sAdd (.cons (.c (.int 9494)) (.cons (.app sMul (.cons (.c (.int 37)) (.cons (.app sLen (.cons (.app sCutScr (.cons (.v 0) .nil)) .nil)) .nil))) .nil))) .nil))))))
def c_start : S := (c_start_1)
@[simp] theorem sCutScr_e {cs : Cs} {Q : KD} {X : KX} : sCutScr [.scr] cs Q X = ∀ ns : List Int, ns.length ≤ 63 → (∀ n ∈ ns, n.natAbs < 2 ^ (2 ^ 20)) → Q (.lst (ns.map D.int)) cs := rfl
@[simp] theorem sListOf_e {x : D} {cs : Cs} {Q : KD} {X : KX} : sListOf [x] cs Q X = match getQ x cs with
    | some xs => Q (.lst xs) cs
    | none => False := rfl
theorem ok_start : okFn 1 c_start spStartU := by
  rintro ds cs Q X ⟨rfl, k⟩
  show wpS c_start_1 [some .scr] cs _
  rw [c_start_1]
  simp only [wpS, wpE, wpEs, getV, sCutScr_e]
  intro ns h1 h2
  simp only [sListOf_e, getQ_lst]
  intro ms h3 h4
  rw [sLen_e (by intro s e; cases e)]
  simp only [getQ_lst, sMul_i, sAdd_i, sListM_e, List.length_map]
  refine ⟨mulOk_r (by omega), show 4 ≤ 16777216 by decide, fun n hn => ?_⟩
  exact k n ns 0 0 _ hn ⟨h1, h2, by decide, by decide, by omega, by omega⟩
end G

/-! GEnd: from facts of the top to defs' promises; the law's end. -/
namespace G
open PySem PySem.Spec L2
/-- the law's promise -/
def spLaw : Spec := fun ds cs Q _ => ds = [.scr] ∧ ∀ cs', Q (.bl true) cs'
section
variable {P : Program} {w : World} {K : PySem.W.Frag} {mg : Str → Option Value} {base : Heap} {x qual : Str} {params : Arguments} {body : List Stmt} {scope : Scope} {f : Addr} {fd : FuncData} {ps ks : List Str} {k n : Nat} {sp : Spec} {ix : List Nat}
theorem fnOk_false : FnOk P w K mg base (L2N.CX P w) 0 f fd ps (lift K mg fun _ _ _ _ => False) :=
  ⟨fun vs H Q E ⟨_, _, _, _, _, _, _, _, h, _⟩ => h.elim, fun A outer s H args us vs Q E _ _ _ _ ⟨_, _, _, _, _, _, _, _, h, _⟩ => h.elim⟩
theorem fnk_mk (FD : FunD K x qual params body scope [] [] f fd) (hm : mg x = some (.ref f)) (ok : FnOk P w K mg base (L2N.CX P w) k f fd ps (lift K mg sp))
    (hb : ∀ (kV doc pm : Value) (an : Option Addr) (cdv ct : Value) (us ws : List Value), us.length = n → ws.length = ks.length → bindArgs (PySem.W.fnOf x qual params body scope .none kV doc pm an cdv ct) ⟨us, ks.zip ws⟩ = pure (ps.zip (permL ix (us ++ ws)))) : FnK P w K mg base x k n ks ix sp := by
  refine ⟨f, fd, ps, hm, ok, FD.kp, fun s us ws h1 h2 => ?_⟩
  obtain ⟨oc, od, dV, kV, doc, pm, an, cdv, ct, osl, rfl, lk, hcd, hD, hK⟩ := FD.ex
  rcases hD with ⟨_, rfl⟩ | ⟨e, _⟩
  · exact .of_eq (hb kV doc pm an cdv ct us ws h1 h2)
  · exact absurd rfl e
end
theorem bits_lt {n : Int} (h : Builtin.Int.intBits n ≤ 1048576) : n.natAbs < 2 ^ (2 ^ 20) := by
  unfold Builtin.Int.intBits at h
  by_cases e : n = 0
  · subst e
    exact Nat.two_pow_pos _
  · have e2 : (n == 0) = false := by simp [e]
    rw [e2] at h
    have h3 : n.natAbs.log2 + 1 ≤ 1048576 := h
    have h4 : n.natAbs.log2 < 2 ^ 20 := by
        omega
    exact (Nat.log2_lt (by omega)).mp h4
/-- what is known of the heap at the start: all but the tables -/
def noT (H : Hp) : Hp := fun a => match H a with
  | some (.tbl _) => none
  | o => o
theorem noT_eq {H : Hp} {a : Addr} {o : HO} (h : H a = some o) (n : ∀ q, o ≠ .tbl q) : noT H a = some o := by
  unfold noT
  rw [h]
  cases o <;> first | rfl | exact absurd rfl (n _)
theorem of_noT {H : Hp} {a : Addr} {o : HO} (h : noT H a = some o) : H a = some o ∧ ∀ q, o ≠ .tbl q := by
  unfold noT at h
  cases e : H a with
  | none => rw [e] at h; cases h
  | some u =>
    rw [e] at h
    cases u <;> first | (cases h; done) | (cases h; exact ⟨rfl, fun q z => by cases z⟩)
theorem noT_l {K : PySem.W.Frag} {H : Hp} {a : Addr} {xs : List V} (h : SqL K H a xs) : SqL K (noT H) a xs := by
  rcases h with (h | ⟨o, h⟩) | h
  · exact .inl (.inl (noT_eq h fun q z => by cases z))
  · exact .inl (.inr ⟨o, noT_eq h fun q z => by cases z⟩)
  · exact .inr h
theorem law_start {K : PySem.W.Frag} {mg : Str → Option Value} {H : Hp} {a : Addr} {ns : List Int} (hl : ns.length ≤ 63) (hb : ∀ z ∈ ns, Builtin.Int.intBits z ≤ 1048576) (hT : ∀ p ∈ tabsOf K, H p.1 = some (.tbl #[])) (hS : SqL K H a (ns.map V.int)) : lift K mg spLaw [.ref a] H (fun v _ => v = .bl true) fun _ _ _ => False := by
  have R : Rl K ⟨noT H, fun _ => none, 0⟩ (fun _ => none) (fun _ => none) H := by
    constructor
    · exact fun a o e => (of_noT e).1
    · intro a o e
      cases e
    · exact fun _ _ _ => rfl
    · intro n m a e
      cases e
    · intro n o e
      cases e
    · intro n a e
      cases e
    · exact fun _ _ => rfl
    · intro n a e
      cases e
    · intro a o e
      cases e
    · exact fun p hp => ⟨#[], hT p hp, True.intro, fun pos cv hc => by
        have z : codeAmong pos [] = some cv := hc
        simp [codeAmong] at z⟩
    · exact fun a q e => (of_noT e).2 q rfl
  have r : RpL K ⟨noT H, fun _ => none, 0⟩ [.scr] [.ref a] := ⟨.ref a, [], rfl, ⟨a, ns, rfl, noT_l hS, hl, fun z hz => bits_lt (hb z hz)⟩, rfl⟩
  refine ⟨_, _, _, [.scr], fun d _ => d = .bl true, fun _ _ => False, R, r, ⟨rfl, fun _ => rfl⟩, ?_, ?_⟩
  · intro wd' d cs v H' _ _ r e
    subst e
    exact r
  · intro _ _ _ _ _ _ _ _ _ z
    exact z.elim
theorem tabsB_ok {tf : List He.Defn} {K : PySem.W.Frag} (h : tabsB tf K = true) {p : Addr × Str} (hp : p ∈ tabsOf K) : ∃ d ∈ tf, (He.cT K d).2 = p.1 := by
  obtain ⟨d, hd, e⟩ := List.any_eq_true.mp (List.all_eq_true.mp h p hp)
  exact ⟨d, hd, beq_iff_eq.mp e⟩
open PyProof.Rows in
theorem walkG {l : PySem.W.OpenLaw} {k : Nat} {q : Program} {loose : List Str} {XP : (Str → Option Value) → Heap → Prop} {d : DefRec} {x : Str} {n : Nat} {fa : List He.Fa} {fn : List He.DefD} {ts : List He.Tab} {tf : List He.Defn} {ex : PySem.W.Frag → Bool}
    (hn : l.most = some 63) (hdf : d.params.defaults = []) (hr : Room k callerA) (hex : ∀ K, ex K = true → tabsB tf K = true)
    (F : ∀ (w : World) (mg : Str → Option Value) (f : Addr) (h : Heap) (K : PySem.W.Frag), K.In h → He.SaysX fa fn ts tf ex w h K → h.Ns mainGlobals mg → mg d.name = some (.ref f) →
      ∃ fd : FuncData, (∀ (s : Shared) (u : Value), BindsTo s fd ⟨[u], []⟩ [(x, u)]) ∧
        ∀ base : Heap, K.In base → base.Ns mainGlobals mg → (∀ p ∈ tf.map (He.cT K), LamX.TabB base mg p.1 p.2) → FnOk l.prog w K mg base (L2N.CX l.prog w) k f fd [x] (lift K mg spLaw)) :
    PySem.W.WalkO q loose XP (He.hookX n fa fn ts tf ex).says l.row.toRowW d [] (fun f vs => PySem.call f vs) := by
  refine LamX.walk_ofTsE (x := x) (n := 63) (CX := fun w => L2N.CX l.prog w) hn (by decide) hdf hr (fun w mg f h Y G hmg => ?_) (fun w H s e s' z => ?_)
  · obtain ⟨K, KX, S⟩ := Y
    obtain ⟨fd, hb, hF⟩ := F w mg f h K KX S G hmg
    refine ⟨K, KX, fd, tf.map (He.cT K), lift K mg spLaw, fun p hp => ?_, fun p hp => ?_, fun p hp => ?_, hb, fun H a ns hlen hbits hT hS => ?_, hF⟩
    · obtain ⟨t, ht, e⟩ := List.mem_map.mp hp
      rw [← e]
      exact S.empty t ht
    · obtain ⟨t, ht, e⟩ := List.mem_map.mp hp
      rw [← e]
      exact S.out t ht
    · obtain ⟨t, ht, e⟩ := List.mem_map.mp hp
      rw [← e]
      exact PySem.W.codeHd_of_K KX (S.hd t ht)
    · refine law_start hlen hbits (fun p hp => ?_) hS
      obtain ⟨t, ht, e⟩ := tabsB_ok (hex K S.more) hp
      rw [← e]
      exact hT _ (List.mem_map.mpr ⟨t, ht, rfl⟩)
  · obtain ⟨_, _, _, _, _, _, _, _, _, _, _, _, z⟩ := z
    exact z
end G

/-! GLam: lambdas made: without parameters, or with one that has a whole number as default. -/
namespace G
open PySem PySem.Spec L2 PyProof.Rows
open Evl (Ex)
/-- a function object of a lambda -/
abbrev lamFd (t : LamT) (cl : List (Str × Addr)) (pm : Value) (cv ctv dV : Value) : FuncData := { PySem.W.kla_fn "<lambda>" t.q t.params t.body t.scope cl pm cv ctv with defaults := dV }
section
variable {M : Model} {A : Around} {E : Value → Shared → Prop} {s : Shared} {t : LamT} {env : Env} {c P : Addr} {ps : Array Value} {pos : Pos} {firstLine : Nat} {mg : Str → Option Value} {clos : List (Str × Addr)} {Q : Value → Shared → Prop}
end
/-- behind a lambda's making -/
structure NewLam (B H H1 : Hp) (P : Addr) (t : LamT) (cl : List (Str × Addr)) (f c' : Addr) (dV : Value) : Prop where
  ext : ∀ b o, H b = some o → b ≠ P → H1 b = some o
  fn : H f = none
  ne : f ≠ c'
  ff : H1 f = some (LamO f c' t cl dV)
  cn : H c' = none ∨ B c' = some (LamX.CodeO c' t.q)
  cc : H1 c' = some (LamX.CodeO c' t.q)
  tab : ∃ ps : Array Value, H1 P = some (.tbl ps) ∧ TriplesOk ps.toList ∧ ∀ (pos : Pos) (cv : Value), codeAmong pos ps.toList = some cv → ∃ c, cv = .ref c ∧ (B c = some (LamX.CodeO c t.q) ∨ c = c')
theorem codeO_ext {c : Addr} {q : Str} (ps : Array Value) : LamX.CodeO c q ≠ .tbl ps := LamX.codeO_ne ps
section
variable {X : Cx} {pins : List (Addr × Obj)} {σ : L2.St} {B H : Hp} {s : Shared} {c P : Addr} {t : LamT} {dV : Value} {pos : Pos} {firstLine : Nat} {E : Value → Shared → Prop} {Q : Value → Shared → Prop} {A : Around}
end
end G

/-! GLam2: a lambda as a value. -/
namespace G
open PySem PySem.Spec L2 PyProof.Rows
open Evl (Ex)
theorem lamO_ext {f c : Addr} {t : LamT} {cl : List (Str × Addr)} {dV : Value} (ps : Array Value) : LamO f c t cl dV ≠ .tbl ps := fun z => by
  have z' : HO.ext _ = HO.tbl ps := z
  cases z'
section
variable {K : PySem.W.Frag} {wd : Wd} {F H H1 : Hp} {cs : Cs} {P : Addr} {t : LamT} {cl : List (Str × Addr)} {f c' : Addr} {dV : Value}
def growB (B : Hp) (f c' : Addr) (t : LamT) (cl : List (Str × Addr)) (dV : Value) : Hp := fun b => if b = f then some (LamO f c' t cl dV) else if b = c' then some (LamX.CodeO c' t.q) else B b
theorem Rl.grow {B : Hp} (R : Rl K wd F cs H) (hBB : Ex B wd.B) (n : NewLam B H H1 P t cl f c' dV) (hP : (P, t.q) ∈ tabsOf K) (hu : ∀ p ∈ tabsOf K, p.1 = P → p.2 = t.q) :
    ∃ wd', wd.le wd' ∧ Rl K wd' F cs H1 ∧ wd'.B f = some (LamO f c' t cl dV) ∧ wd'.B c' = some (LamX.CodeO c' t.q) := by
  obtain ⟨ps0, hP0, _, _⟩ := R.tab _ hP
  have cn : H c' = none ∨ wd.B c' = some (LamX.CodeO c' t.q) := n.cn.imp id fun e => hBB _ _ e
  have fc : f ≠ c' := n.ne
  have ex : Ex wd.B (growB wd.B f c' t cl dV) := fun b o e => by
    unfold growB
    have hb : b ≠ f := ne_of_none (R.b b o e) n.fn
    rw [if_neg hb]
    by_cases hc : b = c'
    · rw [if_pos hc]
      subst hc
      rcases cn with e1 | e1
      · have e2 := R.b _ _ e
        rw [e1] at e2
        cases e2
      · rw [e1] at e
        exact e
    · rw [if_neg hc]
      exact e
  have le : wd.le ⟨growB wd.B f c' t cl dV, wd.r, wd.k⟩ := ⟨ex, fun _ _ h => h⟩
  have bf : growB wd.B f c' t cl dV f = some (LamO f c' t cl dV) := if_pos rfl
  have bc : growB wd.B f c' t cl dV c' = some (LamX.CodeO c' t.q) := (if_neg (Ne.symm fc)).trans (if_pos rfl)
  have inv : ∀ b o, growB wd.B f c' t cl dV b = some o → (b = f ∧ o = LamO f c' t cl dV) ∨ (b = c' ∧ o = LamX.CodeO c' t.q) ∨ wd.B b = some o := fun b o e => by
    unfold growB at e
    by_cases h1 : b = f
    · rw [if_pos h1] at e
      exact .inl ⟨h1, (Option.some.inj e).symm⟩
    · rw [if_neg h1] at e
      by_cases h2 : b = c'
      · rw [if_pos h2] at e
        exact .inr (.inl ⟨h2, (Option.some.inj e).symm⟩)
      · rw [if_neg h2] at e
        exact .inr (.inr e)
  have ext : ∀ b o, H b = some o → (∀ q, o ≠ .tbl q) → H1 b = some o := fun b o e nt => n.ext b o e (R.notbl hP0 e nt)
  refine ⟨_, le, ⟨?_, ?_, ?_, R.inj, ?_, ?_, R.top, R.rf, R.fe, ?_, ?_⟩, bf, bc⟩
  · intro b o e
    rcases inv b o e with ⟨h1, h2⟩ | ⟨h1, h2⟩ | h
    · rw [h1, h2]; exact n.ff
    · rw [h1, h2]; exact n.cc
    · exact ext b o (R.b b o h) fun q z => R.bt b q (by rw [h, z])
  · intro b o e
    exact ext b o (R.f b o e) (R.fe b o e).1
  · intro b o e
    rcases inv b o e with ⟨h1, h2⟩ | ⟨h1, h2⟩ | h
    · rw [h1]; exact Evl.fresh_back R.f n.fn
    · rw [h1]
      rcases cn with e1 | e1
      · exact Evl.fresh_back R.f e1
      · exact R.bf _ _ e1
    · exact R.bf b o h
  · intro m o e
    obtain ⟨a, u, e1, e2, e3, e4, e5⟩ := R.cell m o e
    refine ⟨a, u, e1, ?_, e3, ext a u e4 e5.notbl, e5.mono le⟩
    show growB wd.B f c' t cl dV a = none
    unfold growB
    rw [if_neg (ne_of_none e4 n.fn)]
    have hc : a ≠ c' := fun z => by
      subst z
      rcases cn with q | q
      · rw [q] at e4; cases e4
      · rw [q] at e2; cases e2
    rw [if_neg hc]
    exact e2
  · intro m a e
    obtain ⟨o, ho, hn⟩ := R.ran m a e
    exact ⟨o, ext a o ho hn, hn⟩
  · intro p hp
    by_cases h : p.1 = P
    · obtain ⟨ps, h1, h2, h3⟩ := n.tab
      rw [hu p hp h, h]
      refine ⟨ps, h1, h2, fun pos cv hc => ?_⟩
      obtain ⟨c2, e1, e2⟩ := h3 pos cv hc
      rcases e2 with e2 | e2
      · exact ⟨c2, e1, ex _ _ (hBB _ _ e2)⟩
      · exact ⟨c2, e1, by rw [e2]; exact bc⟩
    · obtain ⟨ps, h1, h2, h3⟩ := R.tab p hp
      exact ⟨ps, n.ext _ _ h1 h, h2, fun pos cv hc => let ⟨c2, e1, e2⟩ := h3 pos cv hc; ⟨c2, e1, ex _ _ e2⟩⟩
  · intro b q e
    rcases inv b _ e with ⟨h1, h2⟩ | ⟨h1, h2⟩ | h
    · exact lamO_ext q h2.symm
    · exact codeO_ext q h2.symm
    · exact R.bt b q h
end
/-- what the context knows of its own lambdas' table -/
structure LamC (X : Cx) (q : Str) : Prop where
  ex : ∃ c P, LamX.TabB X.base X.mg c P ∧ X.env.code = .ref c ∧ (P, q) ∈ tabsOf X.K ∧ ∀ p ∈ tabsOf X.K, p.1 = P → p.2 = q
  qn : q = X.env.qual ++ "<lambda>"
section
variable {X : Cx} {W : WX} {t : LamT} {pos : Pos}
end
end G

/-! GLam3: a lambda called. -/
namespace G
open PySem PySem.Spec L2 PyProof.Rows
open Evl (Ex)
/-- the lambda's names: captured ones, globals, a parameter that no slot bears -/
structure LamN (N : List Str) (sc scope : Scope) : Prop where
  kind : scope.kind = .function
  co : scope.isCoroutine = false
  gen : scope.isGenerator = false
  own : ∀ y ∈ scope.names, y.2 ≠ .cell ∧ (y.2 = .local → y.1 ∉ N)
  free : ∀ y ∈ scope.names, y.2 = .free → sc.names.lookup y.1 = some .cell ∨ sc.names.lookup y.1 = some .free
theorem LamN.has {X : Cx} {scope : Scope} (L : LamN X.N X.env.scope scope) (ok : X.Ok) : ∀ y ∈ scope.names, y.2 = .free → ∃ c, X.env.cells.lookup y.1 = some c := fun y hy e => by
  rcases L.free y hy e with k | k
  · exact ok.has _ (.inl k)
  · exact ok.has _ (.inr k)
/-- the context of a lambda's body, entered at s from the frames outer -/
def lamX (X : Cx) (A : Around) (outer : List Env) (s : Shared) (H : Hp) (E : XK) (scope : Scope) (f c' : Addr) : Cx where
  prog := X.prog
  w := X.w
  K := X.K
  mg := X.mg
  base := X.base
  A := A.deeper (LamX.lamEnv X scope s.heap.objs.size f c')
  N := X.N
  s_0 := s
  H_0 := H
  env := LamX.lamEnv X scope s.heap.objs.size f c'
  outer := outer
  stack := LamX.lamEnv X scope s.heap.objs.size f c' :: outer
  ex := []
  fn := fun _ => false
  calm := true
  pn := []
  xe := fun e s' => wpAny (model X.prog X.w) (A.deeper (LamX.lamEnv X scope s.heap.objs.size f c')) (leaving (LamX.lamEnv X scope s.heap.objs.size f c') e) (fun _ s'' => L2N.CX X.prog X.w outer H s E e s'') (fun e' s'' => L2N.CX X.prog X.w outer H s E e' s'') s'
section
variable {X : Cx} {pins : List (Addr × Obj)} {σ : L2.St} {H HZ : Hp} {s s1 : Shared}
end
/-- how the lambda's call binds -/
def LamBind (t : LamT) : Prop := (t.dfl = [] ∧ ∀ cl pm cv ctv, bindArgs (lamFd t cl pm cv ctv .none) ⟨[], []⟩ = pure []) ∨
  ∃ i a, t.dfl = [i] ∧ t.scope.names.lookup a = some .local ∧ ∀ cl pm cv ctv p, ∃ k, bindArgs (lamFd t cl pm cv ctv (.ref p)) ⟨[], []⟩ = seqItems? (.ref p) >>= k ∧ ∀ v, k (some #[v]) = pure [(a, v)]
/-- the lambda at f, as it lies -/
def LamAt (H : Hp) (t : LamT) (cl : List (Str × Addr)) (f : Addr) : Prop := ∃ (c : Addr) (dV : Value), H f = some (LamO f c t cl dV) ∧ H c = some (LamX.CodeO c t.q) ∧ ((t.dfl = [] ∧ dV = .none) ∨ (t.dfl ≠ [] ∧ ∃ p, dV = .ref p ∧ H p = some (.tup (t.dfl.map V.int))))
/-- f may be called without arguments at any state behind (s, H): tl its reading there -/
def LamRun (P : Program) (w : World) (K : PySem.W.Frag) (mg : Str → Option Value) (base : Heap) (k : Nat) (fs : List Addr) (f : Addr) (s : Shared) (H : Hp) (tl : XK → Hp → VK → Prop) : Prop :=
  ∀ (A : Around) (stk : List Env) (s1 : Shared) (H1 : Hp) (Q : VK) (E : XK), Room (k + 1) A → Env0 P w K mg base A stk s1 H1 → Un fs [] H H1 s.heap s1.heap → tl E H1 Q → codeAny (model P w) A (.call (.ref f) ⟨[], []⟩) (CR (L2N.CX P w) stk P w H1 s1 Q E) s1
section
variable {X : Cx} {pins : List (Addr × Obj)} {σ : L2.St} {H : Hp} {s : Shared} {t : LamT} {k : Nat} {te : XK → TE}
end
theorem Un.deep {fs : List Addr} {L : Addr} {H H1 H2 : Hp} {h h1 h2 : Heap} (a : Un fs [] H H1 h h1) (b : Un (L :: fs) [] H1 H2 h1 h2) (hL : h.get? L = none) : Un fs [] H H2 h h2 := by
  have nL : ∀ c o, h.get? c = some o → c ≠ L := fun c o e z => by
    rw [z, hL] at e
    cases e
  constructor
  · intro c o q n hc hx
    refine b.keep c o (a.keep c o q n hc hx) (a.free c o q n hx) (fun z => ?_) hx
    rcases List.mem_cons.mp z with z | z
    · exact nL c o q z
    · exact hc z
  · intro c o q n hc hx
    obtain ⟨sl, e1⟩ := a.slot c o q n hc hx
    obtain ⟨sl', e2⟩ := b.slot c _ e1 (a.free c o q n hx) (List.mem_cons_of_mem _ hc) hx
    exact ⟨sl', e2⟩
  · intro c o q n hx
    obtain ⟨o', e1⟩ := a.there c o q hx
    exact b.free c o' e1 (a.free c o q n hx) hx
  · intro c o q hx
    obtain ⟨o', e1⟩ := a.there c o q hx
    exact b.there c o' e1 hx
  · exact fun c xs q => b.tups c xs (a.tups c xs q)
  · exact fun c o u q => b.frzs c o u (a.frzs c o u q)
  · intro c ps q
    obtain ⟨m1, e1⟩ := a.tbls c ps q
    obtain ⟨m2, e2⟩ := b.tbls c _ e1
    exact ⟨m1 ++ m2, by rw [e2, Array.append_assoc]⟩
theorem LamRun.later {P : Program} {w : World} {K : PySem.W.Frag} {mg : Str → Option Value} {base : Heap} {k : Nat} {fs : List Addr} {f : Addr} {s s2 : Shared} {H H2 : Hp} {tl : XK → Hp → VK → Prop} (R : LamRun P w K mg base k fs f s H tl) (u : Un fs [] H H2 s.heap s2.heap) : LamRun P w K mg base k fs f s2 H2 tl :=
  fun A stk s1 H1 Q E hr e0 un q => R A stk s1 H1 Q E hr e0 (u.trans un) q
theorem LamRun.deep {P : Program} {w : World} {K : PySem.W.Frag} {mg : Str → Option Value} {base : Heap} {k : Nat} {fs : List Addr} {f L : Addr} {s s2 : Shared} {H H2 : Hp} {tl : XK → Hp → VK → Prop} (R : LamRun P w K mg base k fs f s H tl) (u : Un fs [] H H2 s.heap s2.heap) (hL : s.heap.get? L = none) : LamRun P w K mg base k (L :: fs) f s2 H2 tl :=
  fun A stk s1 H1 Q E hr e0 un q => R A stk s1 H1 Q E hr e0 (Un.deep u un hL) q
end G

/-! GFld: a caught error's tag and field; the def that tells the field. -/
namespace G
open PySem PySem.Spec L2 PyProof.Rows L2H
open Evl (Ex)
/-- the heap with new tuples -/
structure TupX (H H' : Hp) : Prop where
  ex : Ex H H'
  new : ∀ b o, H' b = some o → H b = some o ∨ (H b = none ∧ ∃ xs, o = .tup xs)
theorem TupX.refl (H : Hp) : TupX H H := ⟨Ex.refl H, fun b o e => .inl e⟩
theorem TupX.trans {a b c : Hp} (h : TupX a b) (k : TupX b c) : TupX a c := ⟨h.ex.trans k.ex, fun x o e => by
  rcases k.new x o e with z | ⟨z, w⟩
  · exact h.new x o z
  · refine .inr ⟨?_, w⟩
    cases q : a x with
    | none => rfl
    | some u =>
      have := h.ex x u q
      rw [z] at this
      cases this⟩
theorem TupX.one {H : Hp} {p : Addr} {xs : List V} (h : H p = none) : TupX H (upd H p (.tup xs)) := ⟨Ex.new h, fun b o e => by
  by_cases hb : b = p
  · subst hb
    rw [upd_same] at e
    exact .inr ⟨h, xs, (Option.some.inj e).symm⟩
  · rw [upd_ne hb] at e
    exact .inl e⟩
/-- what the written part says of an error class whose instances are read -/
structure XcR (K : PySem.W.Frag) (C : Addr) (f : Str) : Prop where
  r : XfC K C
  tg : PySem.W.findIn K (.ref C) "tag" = some none
  fl : PySem.W.findIn K (.ref C) f = some none
/-- the caught error p: its tag x, its field f with the value v -/
def ErrAt (K : PySem.W.Frag) (p : Addr × Obj) (H : Hp) (x f : Str) (v : V) : Prop := ∃ C dd fs, p.2.cls = .ref C ∧ p.2.dict = some dd ∧ (∃ vs, p.2.data = .fields vs) ∧ H dd = some (.xd fs) ∧ fs.lookup ("tag" : Str) = some (.str x) ∧ fs.lookup f = some v ∧ XcR K C f
theorem ErrAt.mono {K : PySem.W.Frag} {p : Addr × Obj} {H H' : Hp} {x f : Str} {v : V} (h : ErrAt K p H x f v) (e : Ex H H') : ErrAt K p H' x f v := by
  obtain ⟨C, dd, fs, h1, h2, h3, h4, h5⟩ := h
  exact ⟨C, dd, fs, h1, h2, h3, e _ _ h4, h5⟩
section
variable {X : Cx} {p : Addr × Obj} {e : Expr} {te : TE} {pos : Pos} {n : Str}
inductive StrCs : List Expr → List Str → Prop
  | nil : StrCs [] []
  | cons {s : Str} {j : Nat} {q : Pos} {es : List Expr} {l : List Str} (h : StrCs es l) : StrCs (.Constant (.str s) j q :: es) (s :: l)
variable {es : List Expr} {l : List Str} {q1 q2 q3 q4 : Pos} {k : Nat}
end
end G

/-! GOut: where an error is handled: pairs stored, the field's def called; try with a pair of classes and a class. -/
namespace G
open PySem PySem.Spec L2 PyProof.Rows L2H HotX
open Evl (Ex)
section
variable {prog : Program} {w : World} {A : Around} {E : Value → Shared → Prop} {s : Shared}
end
section
variable {X : Cx} {pos : Pos}
end
/-! ### the def that tells the field -/
structure FldOk (P : Program) (w : World) (K : PySem.W.Frag) (mg : Str → Option Value) (base : Heap) (g : Addr) (fd : FuncData) : Prop where
  run : ∀ (A : Around) (outer : List Env) (s : Shared) (H : Hp) (Q : VK) (p : Addr × Obj) (x f : Str) (v : V), RoomH 1 A → Hot1 A p → PinOk outer H s p → Env0 P w K mg base A outer s H → BindsTo s fd ⟨[.ref p.1], []⟩ [("_law_e", .ref p.1)] → ErrAt K p H x f v → fname x = some f → (∀ H', TupX H H' → Q v H') →
    codeAny (model P w) A (.call (.ref g) ⟨[.ref p.1], []⟩) (CR (L2N.CX P w) outer P w H s Q fun _ _ _ => False) s
section
variable {X : Cx} {p : Addr × Obj} {i : Nat} {q1 q2 q3 : Pos} {g : Addr} {fd : FuncData}
theorem pe_fld (F : FldOk X.prog X.w X.K X.mg X.base g fd) (hr : RoomH 1 X.A) (hot : Hot1 X.A p) (hp : p ∈ X.pn) (hg : Gl X "_law_field") (hm : X.mg "_law_field" = some (.ref g)) (hk : PySem.W.keepIn X.K (.ref g) = true) (hb : Binds X.K fd ["_law_e"] []) (hN : X.N[i]? = some ("_law_e" : Str)) (hv : Vis X.env.scope "_law_e")
    (he : starEach [.Name "_law_e" q2] X.env = (false, eval (.Name "_law_e" q2) X.env) :: starEach [] X.env := by rfl) :
    PE X (.Call (.Name "_law_field" q1) [.Name "_law_e" q2] [] q3) (fun σ H Q => σ[i]? = some (some (.ref p.1)) ∧ ∃ x f v, ErrAt X.K p H x f v ∧ fname x = some f ∧ ∀ H', TupX H H' → Q v H') := by
  refine ⟨fun pins s σ H Q I ⟨h0, x, f, v, hE, hf, hq⟩ => ?_⟩
  refine wpAny_Call_Name_kw (ld_glob I hg hm ?_ (by decide))
  refine PySem.W.callWith_K (h₀ := X.base) I.ok.mod.kin hk (thn ((pa_cons (pe_var (i := i) hN hv) pa_nil he).run q3 pins s σ H (fun vs H1 => vs = [.ref p.1] ∧ H1 = H) I ⟨_, h0, rfl, rfl⟩) fun us s1 ⟨vs, H1, I1, r1, ev, eH⟩ => ⟨I1.kIn, ?_⟩) he (by rfl)
  subst ev eH
  have eu : us = [Value.ref p.1] := by
    cases r1 with
    | cons r rr =>
      cases rr
      rw [show _ = Value.ref p.1 from r]
  subst eu
  have P1 := I1.pin p (List.mem_append_left _ hp)
  have hpin : PinOk X.stack H1 s1 p := ⟨P1.1, P1.2.1, fun hm => (List.mem_cons.mp (I1.stkSub p.1 hm)).elim P1.2.2.1 P1.2.2.2.1, P1.2.2.2.2⟩
  have bb := hb s1 [Value.ref p.1] I1.kIn rfl
  refine wpAny_call (codeAny_mono (F.run X.A X.stack s1 H1 Q p x f v hr hot hpin I1.env0 bb hE hf hq) fun r s' hq => ?_)
  cases r with
  | error e =>
    obtain ⟨_, _, _, _, _, _, _, _, _, _, _, _, z⟩ := hq
    exact z.elim
  | ok fl =>
    cases fl with
    | ret u => exact I1.after hq
    | next => exact False.elim hq
    | brk => exact False.elim hq
    | cont => exact False.elim hq
end
end G

/-! GOut2: try with a pair of classes and a class, both with a name. -/
namespace G
open PySem PySem.Spec L2 PyProof.Rows L2H HotX
open Evl (Ex)
/-- a class by its global name -/
structure GlC (X : Cx) (x : Str) (c : Value) : Prop where
  g : Gl X x
  d : (x == ("__debug__" : Str)) = false
  m : X.mg x = some c
section
variable {X : Cx} {x1 x2 x3 n : Str} {c1 c2 c3 : Value} {i k : Nat} {body su1 su2 : List Stmt} {b1 b2 : Stmt} {np1 np2 np3 ntp pos pos1 pos2 : Pos} {tb : WX → TS} {t1 t2 : Addr → Value → Option Addr → TS}
end
end G

/-! GOut3: the defs that tell a lambda's answer or error. -/
namespace G
open PySem PySem.Spec L2 PyProof.Rows L2H HotX
open Evl (Ex)
theorem PE.imp {X : Cx} {e : Expr} {t t' : TE} (h : PE X e t) (k : ∀ σ H Q, t' σ H Q → t σ H Q) : PE X e t' := ⟨fun pins s σ H Q I q => h.run pins s σ H Q I (k σ H Q q)⟩
/-- the caught error, by its class and dict -/
def ErrC (K : PySem.W.Frag) (cls : Value) (d : Option Addr) (H : Hp) (x f : Str) (v : V) : Prop := ∃ C dd fs, cls = .ref C ∧ d = some dd ∧ H dd = some (.xd fs) ∧ fs.lookup ("tag" : Str) = some (.str x) ∧ fs.lookup f = some v ∧ XcR K C f
theorem ErrC.at {K : PySem.W.Frag} {cls : Value} {d : Option Addr} {H : Hp} {x f : Str} {v : V} {a : Addr} {oe : Obj} (h : ErrC K cls d H x f v) (hz : L2N.Zn cls d oe) (hd : ∃ vs, oe.data = .fields vs) : ErrAt K (a, oe) H x f v := by
  obtain ⟨C, dd, fs, h1, h2, h3⟩ := h
  exact ⟨C, dd, fs, hz.1.trans h1, hz.2.1.trans h2, hd, h3⟩
/-- the result (k: without the answer) -/
def resK (k : Bool) (Q : VK) (a : V) (t : Str) (v : V) (H : Hp) : Prop := ∀ p, H p = none → if k = true then ∀ p2, upd H p (.tup [a, .str t, v]) p2 = none → Q (.ref p2) (upd (upd H p (.tup [a, .str t, v])) p2 (.tup [.str t, v])) else Q (.ref p) (upd H p (.tup [a, .str t, v]))
def outQ (k : Bool) (Q : VK) : VK := fun v H => resK k Q v "" .non H
def outE (k : Bool) (K : PySem.W.Frag) (c1 c2 c3 : Value) (Q : VK) : XK := fun cls d H => ∃ x f v, ErrC K cls d H x f v ∧
  ((PySem.W.exmAny K cls [c1, c2] = some true ∧ fname x = some f ∧ ∀ H', TupX H H' → resK k Q .non x v H') ∨ (PySem.W.exmAny K cls [c1, c2] = some false ∧ PySem.W.exmOne K cls c3 = some true ∧ resK k Q .non x .non H))

structure OutOk (P : Program) (w : World) (K : PySem.W.Frag) (mg : Str → Option Value) (base : Heap) (k : Nat) (kf : Bool) (c1 c2 c3 : Value) (x : Str) : Prop where
  ex : ∃ g fd, mg x = some (.ref g) ∧ PySem.W.keepIn K (.ref g) = true ∧ L2.Binds K fd ["_law_ask"] [] ∧
    ∀ (A : Around) (stk : List Env) (s : Shared) (H : Hp) (f : Addr) (tl : XK → Hp → VK → Prop) (Q : VK) (j : Nat), Room (j + k) A → Env0 P w K mg base A stk s H → BindsTo s fd ⟨[.ref f], []⟩ [("_law_ask", .ref f)] → LamRun P w K mg base j (frs stk) f s H tl →
      (∀ E H Q, tl E H Q → ∃ t cl, LamAt H t cl f) → (∀ H1, TupX H H1 → ∀ (E : XK) (Q' : VK), (∀ cls d H', outE kf K c1 c2 c3 Q cls d H' → E cls d H') → (∀ v H', outQ kf Q v H' → Q' v H') → tl E H1 Q') →
      codeAny (model P w) A (.call (.ref g) ⟨[.ref f], []⟩) (CR (L2N.CX P w) stk P w H s Q fun _ _ _ => False) s
section
variable {X : Cx} {W : WX} {f a : Addr} {x : Str} {tl : XK → Hp → VK → Prop} {i k : Nat} {q1 q2 q3 : Pos} {c1 c2 c3 : Value} {kf : Bool}
end
section
variable {P : Program} {w : World} {K : PySem.W.Frag} {mg : Str → Option Value} {base : Heap} {fF : Addr} {fdF : FuncData} {qual : Str} {params : Arguments} {body : List Stmt} {scope : Scope} {g : Addr} {fd : FuncData} {c1 c2 c3 : Value} {k : Nat}
end
end G

/-! GOut4: what calling a lambda comes to, in the core. -/
namespace G
open PySem PySem.Spec L2 PyProof.Rows L2H HotX
open Evl (Ex)
/-- what the written part says of the error classes -/
structure Errs (K : PySem.W.Frag) (mg : Str → Option Value) (c1 c2 c3 : Value) : Prop where
  ok : ∀ t f C, fname t = some f → mg t = some (.ref C) → PySem.W.exmAny K (.ref C) [c1, c2] = some true ∧ XcR K C f
  ok0 : ∀ C, mg "EmptyHistory" = some (.ref C) → PySem.W.exmAny K (.ref C) [c1, c2] = some false ∧ PySem.W.exmOne K (.ref C) c3 = some true ∧ XcR K C "tag"
section
variable {K : PySem.W.Frag} {wd : Wd} {F H H' : Hp} {cs : Cs}
theorem Rl.more (R : Rl K wd F cs H) (x : TupX H H') : Rl K wd F cs H' := by
  refine ⟨R.b.trans x.ex, R.f.trans x.ex, R.bf, R.inj, fun n o e => ?_, fun n a e => ?_, R.top, R.rf, R.fe, fun p hp => ?_, R.bt⟩
  · obtain ⟨a, u, e1, e2, e3, e4, e5⟩ := R.cell n o e
    exact ⟨a, u, e1, e2, e3, x.ex _ _ e4, e5⟩
  · obtain ⟨o, h1, h2⟩ := R.ran n a e
    exact ⟨o, x.ex _ _ h1, h2⟩
  · obtain ⟨ps, h1, h2⟩ := R.tab p hp
    exact ⟨ps, x.ex _ _ h1, h2⟩
end
section
variable {X : Cx} {W : WX} {t : LamT} {pos lpos p : Pos} {kf : Bool} {c1 c2 c3 : Value} {x : Str} {k j : Nat} {c : E}
theorem LamAt.mono {H H' : Hp} {cl : List (Str × Addr)} {f : Addr} (h : LamAt H t cl f) (e : Ex H H') : LamAt H' t cl f := by
  obtain ⟨c, dV, h1, h2, h3⟩ := h
  exact ⟨c, dV, e _ _ h1, e _ _ h2, h3.imp id fun ⟨n, p, e1, e2⟩ => ⟨n, p, e1, e _ _ e2⟩⟩
end
end G

/-! GStar: a, *b, c = a list. -/
namespace G
open PySem PySem.Spec L2
open Evl (Ex)
section
variable {P : Program} {w : World} {A : Around} {E : Value → Shared → Prop} {s : Shared}
end
section
variable {X : Cx} {W : WX} {pos p p' : Pos} {e tg : Expr} {ce : E} {tgs elts : List Expr} {pt : Pat} {own : List Nat} {n i k : Nat}
end
end G

namespace G
end G

/-! GFor: forests as lists of parents; paths; finds. Plain mathematics. -/
namespace G
def par (p : List Nat) (i : Nat) : Nat := p.getD i i
/-- following parents comes to an end -/
def FoOk (p : List Nat) : Prop := ∃ r : Nat → Nat, ∀ i, i < p.length → par p i < p.length ∧ r i < p.length ∧ (par p i = i ∨ r (par p i) < r i)
def pth (p : List Nat) : Nat → Nat → List Nat
  | 0, i => [i]
  | f + 1, i => if par p i = i then [i] else i :: pth p f (par p i)
def path (p : List Nat) (i : Nat) : List Nat := pth p p.length i
def root (p : List Nat) (i : Nat) : Nat := (path p i).getLastD i
section
variable {p : List Nat}
end
/-! ### a find -/
def cmp (p xs : List Nat) (t : Nat) : List Nat := (List.range p.length).map fun i => if i ∈ xs then t else par p i
def fnd (p : List Nat) (i : Nat) : List Nat := cmp p (path p i) (root p i)
def cst (p : List Nat) (i : Nat) : Nat := (path p i).length - 1
/-- M is closed upwards and has no root -/
structure MOk (p : List Nat) (M : Nat → Bool) : Prop where
  nr : ∀ i, i < p.length → M i = true → par p i ≠ i
  up : ∀ i, i < p.length → M i = true → M (par p i) = true ∨ par p (par p i) = par p i
section
variable {p : List Nat} {M : Nat → Bool}
/-- one more find -/
def more (p : List Nat) (M : Nat → Bool) (i : Nat) : Nat → Bool := fun j => M j || (decide (j ∈ path p i) && decide (j ≠ root p i))
/-! ### costs -/
def deep (p : List Nat) (j : Nat) : Bool := decide (par p j ≠ j) && decide (par p (par p j) ≠ par p j)
end
/-! ### many finds -/
def mk (p : List Nat) (xs : List Nat) : Nat → Bool := fun j => xs.any fun i => decide (j ∈ path p i) && decide (j ≠ root p i)
end G

/-! GLess: cells left over may be forgotten. -/
namespace G
open PySem PySem.Spec L2
def Le (c c' : Cs) : Prop := ∀ n o, c n = some o → c' n = some o
theorem Le.refl (c : Cs) : Le c c := fun _ _ h => h
theorem Le.trans {a b c : Cs} (h : Le a b) (k : Le b c) : Le a c := fun n o e => k n o (h n o e)
theorem Le.put {c c' : Cs} {n : Nat} {o : Ob} (h : Le c c') (hn : c n = none) : Le c (put c' n o) := fun m u e => by
  have : m ≠ n := fun z => by rw [z, hn] at e; cases e
  rw [put_ne this]
  exact h m u e
theorem Le.none {c c' : Cs} {n : Nat} (h : Le c c') (hn : c' n = none) : c n = none := by
  cases e : c n with
  | none => rfl
  | some o => rw [h n o e] at hn; cases hn
def okFnL (n : Nat) (body : S) (sp : Spec) : Prop := ∀ ds cs Q X, sp ds cs Q X → wpS body (start n ds) cs { nx := fun _ c' => ∃ c, Le c c' ∧ Q .non c, rt := fun d c' => ∃ c, Le c c' ∧ Q d c, ex := fun x _ c' => ∃ c, Le c c' ∧ X x c }
section
variable {P : Program} {w : World} {K : PySem.W.Frag} {mg : Str → Option Value} {base : Heap}
theorem fnOk_ofL {x qual : Str} {params : Arguments} {body : List Stmt} {scope : Scope} {dvs : List V} {kws : List (Str × V)} {f : Addr} {fd : FuncData} {N ps : List Str} {k : Nat} {sp : Spec} {core : S} (FD : FunD K x qual params body scope dvs kws f fd) (S : FnScope N ps scope)
    (len : ∀ ds cs Q PX, sp ds cs Q PX → ds.length = ps.length)
    (hb : ∀ (cdv : Value) (A : Around) (outer : List Env) (s : Shared) (H : Hp) (E : XK), Ct (cxOf (L2N.CX P w) P w K mg base N qual scope f cdv A outer s H E) (wxOf E) k → JSs (cxOf (L2N.CX P w) P w K mg base N qual scope f cdv A outer s H E) (wxOf E) body core)
    (ok : okFnL N.length core sp) : FnOk P w K mg base (L2N.CX P w) (k + 1) f fd ps (lift K mg sp) := by
  refine FD.ok S (fun vs H Q E h => ?_) fun cdv A outer s H vs Q E hr h => ?_
  · obtain ⟨wd, F, cs, ds, PD, PX, R, r, s, q⟩ := h
    rw [r.length]
    exact len _ _ _ _ s
  · obtain ⟨wd, F, cs, ds, PD, PX, R, r, hs, q, x⟩ := h
    obtain ⟨t, p1, r1⟩ := hb cdv A outer s H E ⟨rfl, S.nd, passes_of rfl, L2N.takes_of rfl rfl rfl rfl, hr⟩
    refine ⟨t, p1, ?_⟩
    exact r1 wd F _ cs _ H _ _ R (rs_start r) (ok ds cs PD PX hs) ⟨fun wd' τ cs' σ H' l R' rs' ⟨c, le, h'⟩ => q wd' .non c .non H' l (R'.less le) rfl h', fun _ _ _ _ _ _ _ _ z => z.elim, fun _ _ _ _ _ _ _ _ z => z.elim, fun wd' d cs' v H' l R' rv ⟨c, le, h'⟩ => q wd' d c v H' l (R'.less le) rv h', fun wd' y τ cs' σ cls dd H' l R' rs' rx ⟨c, le, z⟩ => x wd' y c cls dd H' l (R'.less le) rx z⟩
end
theorem okFn.less {n : Nat} {body : S} {sp : Spec} (h : okFn n body sp) (mono : ∀ ds cs Q X Q' X', sp ds cs Q X → (∀ d c, Q d c → Q' d c) → (∀ x c, X x c → X' x c) → sp ds cs Q' X') : okFnL n body sp :=
  fun ds cs Q X hs => h ds cs (fun d c' => ∃ c, Le c c' ∧ Q d c) (fun x c' => ∃ c, Le c c' ∧ X x c) (mono ds cs Q X _ _ hs (fun d c z => ⟨c, Le.refl c, z⟩) fun x c z => ⟨c, Le.refl c, z⟩)
end G

/-! GTop: from facts of the top to error classes, lambdas' tables, defs' promises. -/
namespace G
open PySem PySem.Spec L2 PyProof.Rows
theorem takesN {X : Cx} : L2N.Takes X (fun _ _ _ _ => False) := fun _ _ x => by
  obtain ⟨_, _, _, _, _, _, _, _, _, _, _, _, _, _, _, _, z⟩ := x
  exact z.elim
section
variable {P : Program} {w : World} {K : PySem.W.Frag} {mg : Str → Option Value} {base : Heap} {x qual : Str} {params : Arguments} {body : List Stmt} {scope : Scope} {f : Addr} {fd : FuncData} {ps ks : List Str} {k n : Nat} {sp : Spec} {ix : List Nat}
theorem fn_mkB (FD : FunD K x qual params body scope [] [] f fd) (hm : mg x = some (.ref f)) (ok : FnOk P w K mg base (L2N.CX P w) k f fd ps (lift K mg sp)) (hb : L2.Binds K fd ps []) : Fn P w K mg base x k ps.length sp :=
  ⟨f, fd, ps, rfl, hm, ok, FD.kp, hb⟩
end
/-! ### the error classes -/
section
variable {P : Program} {w : World} {K : PySem.W.Frag} {mg : Str → Option Value} {base : Heap} {x qual f pn : Str} {params : Arguments} {scope : Scope} {fd : FuncData} {p1 p2 p3 p4 p5 p6 p7 p8 p9 : Pos} {j k1 k2 : Nat} {body : List Stmt}
theorem xc_of (h : clsCB K x f = true) (hm : mg x = some (.ref (He.ga K x))) (FD : FunD K "__init__" qual params body scope [] [] (He.fAd K (x, some "__init__")) fd) (S : FnScope ["self", pn] ["self", pn] scope)
    (hv : scope.names.lookup ("self" : Str) = some .local) (hv2 : scope.names.lookup pn = some .local) (hb : body = [.Assign [.Tuple [.Attribute (.Name "self" p1) "tag" p2, .Attribute (.Name "self" p3) f p4] k1 p5] (.Tuple [.Constant (.str x) j p6, .Name pn p7] k2 p8) p9])
    (bd : L2.Binds K fd ["self", pn] []) (hd : (pn == ("__debug__" : Str)) = false := by decide) (hcd : (pn == ("__classdict__" : Str)) = false := by decide) : Xc P w K mg base x f := by
  unfold clsCB at h
  simp only [Bool.and_eq_true, decide_eq_true_eq] at h
  obtain ⟨h1, h2, h3, h4, h5⟩ := h
  exact ⟨_, _, fd, _, hm, ⟨xcB_ok h1, h2, h3⟩, h4, h5, ini_ok FD S hv hv2 hb hd hcd, bd⟩
end
section
variable {K : PySem.W.Frag} {h : Heap} {mg : Str → Option Value}
end
/-! ### lambdas' tables -/
/-- what is known of the table of a def's code object -/
structure LamK (K : PySem.W.Frag) (mg : Str → Option Value) (base : Heap) (cdv : Value) (qual : Str) : Prop where
  ex : ∃ c P, LamX.TabB base mg c P ∧ cdv = .ref c ∧ (P, qual ++ ".<locals>." ++ "<lambda>") ∈ tabsOf K ∧ ∀ p ∈ tabsOf K, p.1 = P → p.2 = qual ++ ".<locals>." ++ "<lambda>"
theorem LamK.c {X : Cx} {q : Str} (L : LamK X.K X.mg X.base X.env.code q) (h : X.env.qual = q ++ ".<locals>.") : LamC X (q ++ ".<locals>." ++ "<lambda>") := ⟨L.ex, by rw [h]⟩
section
variable {P : Program} {w : World} {K : PySem.W.Frag} {mg : Str → Option Value} {base : Heap} {x qual : Str} {params : Arguments} {body : List Stmt} {scope : Scope} {dvs : List V} {kws : List (Str × V)} {p : Str × Option Str} {fd : FuncData} {N ps : List Str} {k : Nat} {sp : Spec} {core : S}
end
end G

/-! GFoD: what the program's finds and the laws' helpers over forests promise. -/
namespace G
open PySem (Str)
@[simp] theorem sAppend_e {n : Nat} {y : D} {cs : Cs} {Q : KD} {X : KX} : sAppend [.ref n, y] cs Q X = match cs n with
    | some (.lst xs) => xs.length < lim ∧ Q .non (put cs n (.lst (xs ++ [y])))
    | _ => False := rfl
@[simp] theorem sInsert_e {n : Nat} {i : Int} {y : D} {cs : Cs} {Q : KD} {X : KX} : sInsert [.ref n, .int i, y] cs Q X = match cs n with
    | some (.lst xs) => xs.length < lim ∧ 0 ≤ i ∧ i < 2 ^ 63 ∧ Q .non (put cs n (.lst (xs.take i.toNat ++ [y] ++ xs.drop i.toNat)))
    | _ => False := rfl
@[simp] theorem chkL_ref {n : Nat} {cs : Cs} : chkL (.ref n) cs = match cs n with
    | some (.lst xs) => True
    | _ => False := by
  unfold chkL
  simp only [getL_ref]
  cases cs n with
  | none => rfl
  | some o => cases o <;> rfl
@[simp] theorem sTupOf_e {x : D} {cs : Cs} {Q : KD} {X : KX} : sTupOf [x] cs Q X = match getQ x cs with
    | some xs => Q (.tup xs) cs
    | none => False := rfl
theorem sNotIn_e {x y : D} {cs : Cs} {Q : KD} {X : KX} : sNotIn [x, y] cs Q X = match getQ y cs with
    | some xs => flat x = true ∧ xs.all flat = true ∧ Q (.bl (!inD x xs)) cs
    | none => False := rfl
@[simp] theorem beqN {a b : Nat} : ((a : Int) == (b : Int)) = decide (a = b) := by
  rw [Bool.eq_iff_iff]
  simp
  omega
/-- nodes as values -/
def nI (xs : List Nat) : List D := xs.map fun n => D.int (n : Nat)
def fD (p : List Nat) : D := .tup (nI p)
@[simp] theorem nI_len {xs : List Nat} : (nI xs).length = xs.length := by simp [nI]
@[simp] theorem nI_flat {xs : List Nat} : (nI xs).all flat = true := by
  rw [List.all_eq_true]
  intro d hd
  obtain ⟨n, _, e⟩ := List.mem_map.mp hd
  rw [← e]
  rfl
/-! ### need_node, path_of -/
theorem fD_str {p : List Nat} : ∀ s, fD p ≠ .str s := fun s e => by cases e
theorem compL_map {p : Pat} {grd : Cs → Prop} {σ : Sl} {tst elt : Sl → Cs → KD → Prop} {Q : List D → Cs → Prop} {cs : Cs} (f : D → D) (hg : grd cs) (items acc : List D)
    (h : ∀ x ∈ items, ∃ σ1, bindP p [x] σ = some σ1 ∧ (∀ K : KD, K (.bl true) cs → tst σ1 cs K) ∧ (∀ K : KD, K (f x) cs → elt σ1 cs K)) (hl : acc.length + items.length ≤ lim) (hQ : Q (acc ++ items.map f) cs) : compL p grd σ tst elt Q items acc cs := by
  refine compL_pure (fun _ => true) f hg items acc (fun x hx => ?_) hl ?_
  · obtain ⟨σ1, a, b, c⟩ := h x hx
    exact ⟨σ1, a, b, fun _ => c⟩
  · rw [show items.filter (fun _ => true) = items from List.filter_eq_self.mpr (by simp)]
    exact hQ
/-- a comprehension whose items are not determined -/
theorem compL_all {p : Pat} {grd : Cs → Prop} {σ : Sl} {tst elt : Sl → Cs → KD → Prop} {Q : List D → Cs → Prop} {cs : Cs} (A : D → Prop) (hg : grd cs) : ∀ (items acc : List D),
    (∀ x ∈ items, ∃ σ1, bindP p [x] σ = some σ1 ∧ (∀ K : KD, K (.bl true) cs → tst σ1 cs K) ∧ (∀ K : KD, (∀ y, A y → K y cs) → elt σ1 cs K)) → acc.length + items.length ≤ lim →
    (∀ ys, ys.length = items.length → (∀ y ∈ ys, A y) → Q (acc ++ ys) cs) → compL p grd σ tst elt Q items acc cs
  | [], acc, _, _, hQ => ⟨hg, by simpa using hQ [] rfl (by simp)⟩
  | x :: xs, acc, h, hl, hQ => by
    obtain ⟨σ1, hb, ht, he⟩ := h x List.mem_cons_self
    refine ⟨hg, ?_⟩
    rw [hb]
    have hl2 : acc.length + (xs.length + 1) ≤ lim := by simpa using hl
    refine ht _ (.inl ⟨rfl, he _ fun y hy => ⟨by omega, compL_all A hg xs _ (fun z hz => h z (List.mem_cons_of_mem _ hz)) (by simp; omega) fun ys h1 h2 => ?_⟩⟩)
    have := hQ (y :: ys) (by simp [h1]) fun z hz => by
      rcases List.mem_cons.mp hz with e | e
      · rw [e]
        exact hy
      · exact h2 z e
    simpa using this
/-! ### compressed, find, find_all -/
def isSeq (x : D) (xs : List D) : Prop := x = .lst xs ∨ x = .tup xs
theorem isSeq.q {x : D} {xs : List D} {cs : Cs} (h : isSeq x xs) : getQ x cs = some xs := by
  rcases h with e | e <;> (rw [e]; rfl)
theorem isSeq.str {x : D} {xs : List D} (h : isSeq x xs) : ∀ s, x ≠ .str s := by
  rcases h with e | e <;> (rw [e]; intro s z; cases z)
theorem isSeq.g {x : D} {xs : List D} {cs c : Cs} (h : isSeq x xs) : grdL x cs c := by
  rcases h with e | e <;> (rw [e]; trivial)
theorem iSeq_e {x : D} {xs : List D} {cs : Cs} {R : List D → (Cs → Prop) → Prop} (h : isSeq x xs) (k : R xs (grdL x cs)) : iSeq [x] cs R := by
  show (match getQ x cs with
    | some xs => R xs (grdL x cs)
    | none => False)
  rw [h.q]
  exact k
end G

/-! GFoE: the laws' forests, nodes, paths. -/
namespace G
open PySem (Str)
/-! ### draws -/
@[simp] theorem sRepM_e {x : D} {k : Int} {cs : Cs} {Q : KD} {X : KX} : sRepM [x, .int k] cs Q X = match getL x cs with
    | some xs => -(2 ^ 63) ≤ k ∧ k < 2 ^ 63 ∧ xs.length * k.toNat ≤ lim ∧ ∀ n, cs n = none → Q (.ref n) (put cs n (.lst (List.replicate k.toNat xs).flatten))
    | none => False := rfl
@[simp] theorem sListRg_e {a b : Int} {cs : Cs} {Q : KD} {X : KX} : sListRg [.int a, .int b] cs Q X = (-(2 ^ 62) ≤ a ∧ a < 2 ^ 62 ∧ -(2 ^ 62) ≤ b ∧ b < 2 ^ 62 ∧ (b - a).toNat ≤ lim ∧ Q (.lst (rgD a b)) cs) := rfl
/-! ### forests -/
theorem cutHi_l {xs : List D} {i : Nat} {cs : Cs} {Q : KD} {X : KX} : sCutHi [.lst xs, .int (i : Nat)] cs Q X = Q (.lst (xs.take i)) cs := by
  show Q (.lst (cutD xs none (some (i : Nat)))) cs = _
  congr 2
  unfold cutD sIxAt
  simp
  rw [if_neg (by omega)]
  omega
end G

/-! GFoF: more rewriting rules for lists of nodes. -/
namespace G
open PySem (Str)
@[simp] theorem sRev_l {xs : List D} {cs : Cs} {Q : KD} {X : KX} : sRev [.lst xs] cs Q X = Q (.lst xs.reverse) cs := rfl
end G

/-! GWay: marked nodes, ways from a forest to another. -/
namespace G
open PySem (Str)
/-! ### promises -/
def sub (p : List Nat) (i : Nat) : List Nat := (List.range p.length).filter fun j => decide (i ∈ path p j)
/-! ### ways -/
def chg (p q : List Nat) : List Nat := (List.range p.length).filter fun i => !decide (par p i = par q i)
structure Pair (p q : List Nat) : Prop where
  len : q.length = p.length
  rts : ∀ i, i < p.length → (par p i = i ↔ par q i = i)
/-- nothing bars the way -/
def Free (p q : List Nat) (i : Nat) : Prop := ∀ j ∈ (path p i).dropLast, par q j = root p i
structure Way (p q : List Nat) : Prop extends Pair p q where
  fo : FoOk p
  free : ∀ i ∈ chg p q, Free p q i
end G

/-! GWayM: the ways to forests that finds make. Plain mathematics. -/
namespace G
section
variable {p : List Nat} {M : Nat → Bool}
end
/-! ### all but one of the needed nodes -/
section
variable {p xs : List Nat} {t : Nat} {rest : List Nat}
end
end G

/-! GAny: any; a returned cell read as a tree. -/
namespace G
open PySem PySem.Spec L2
def sAny : Spec := fun ds cs Q _ => match ds with
  | [x] => match getL x cs with
    | some xs => match asBools xs with
      | some bs => Q (.bl (bs.any id)) cs
      | none => False
    | none => False
  | _ => False
@[simp] theorem sAny_e {x : D} {cs : Cs} {Q : KD} {X : KX} : sAny [x] cs Q X = match getL x cs with
    | some xs => match asBools xs with
      | some bs => Q (.bl (bs.any id)) cs
      | none => False
    | none => False := rfl
/-- what is returned in a cell, as a tree -/
def frzS (sp : Spec) : Spec := fun ds cs Q X => sp ds cs (fun d c => ∃ n xs, d = .ref n ∧ c n = some (.lst xs) ∧ Q (.lst xs) (del c n)) X
section
variable {P : Program} {w : World} {K : PySem.W.Frag} {mg : Str → Option Value} {base : Heap} {k : Nat} {f : Addr} {fd : FuncData} {ps : List Str} {sp : Spec}
theorem fnOk_frz (F : FnOk P w K mg base (L2N.CX P w) k f fd ps (lift K mg sp)) : FnOk P w K mg base (L2N.CX P w) k f fd ps (lift K mg (frzS sp)) := by
  refine F.imp fun vs H Q E ⟨wd, F, cs, ds, PD, PX, R, r, hs, q, x⟩ => ⟨wd, F, cs, ds, _, PX, R, r, hs, fun wd' d c v H' l R' rv h => ?_, x⟩
  obtain ⟨n, xs, e, hc, hp⟩ := h
  subst e
  obtain ⟨wd2, a, le, e1, R2, rp⟩ := R'.freeze hc
  obtain ⟨a', e2, ev⟩ := rv
  rw [e1] at e2
  cases e2
  subst ev
  exact q wd2 _ _ _ H' (l.trans le) R2 rp hp
end
theorem fnOk_imp {P : Program} {w : World} {K : PySem.W.Frag} {mg : Str → Option Value} {base : Heap} {k : Nat} {f : Addr} {fd : FuncData} {ps : List Str} {sp sp' : Spec} (F : FnOk P w K mg base (L2N.CX P w) k f fd ps (lift K mg sp)) (h : ∀ ds cs Q X, sp' ds cs Q X → sp ds cs Q X) : FnOk P w K mg base (L2N.CX P w) k f fd ps (lift K mg sp') :=
  F.imp fun vs H Q E ⟨wd, F, cs, ds, PD, PX, R, r, hs, q⟩ => ⟨wd, F, cs, ds, PD, PX, R, r, h _ _ _ _ hs, q⟩
section
variable {X : Cx} {W : WX} {pos p : Pos} {a : Expr} {ca : E} {K : PySem.W.Frag}
end
end G

/-! GTup: + of tuples, empty ones too. -/
namespace G
open PySem PySem.Spec L2
section
variable {X : Cx} {W : WX} {pos : Pos} {a b : Expr} {ca cb : E}
end
end G

namespace G
end G

namespace G
def c_parse_number_1 : S := (.asg (.nm 1) (.ite (.app sEq (.cons (.app sCutHiA (.cons (.v 0) (.cons (.c (.int 1)) .nil))) (.cons (.c (.str "-")) .nil))) (.app sCutLoA (.cons (.v 0) (.cons (.c (.int 1)) .nil))) (.v 0)))
def c_parse_number_2 : S := (.ret (.c .non))
def c_parse_number_3 : S := (.ite (.or (.app sNot (.cons (.chain sLe sLe (.c (.int 1)) (.app sLen (.cons (.v 1) .nil)) (.c (.int 31))) .nil)) (.app sNot (.cons (.app sAll (.cons (.comp false [2] (.nm 2) iStr (.cons (.v 1) .nil) (.c (.bl true)) (.app sInStr (.cons (.v 2) (.cons (.c (.str "0123456789")) .nil)))) .nil)) .nil))) (c_parse_number_2) .skip)
def c_parse_number_4 : S := (.ret (.c .non))
def c_parse_number_5 : S := (.ite (.and (.app sEq (.cons (.app sIxA (.cons (.v 1) (.cons (.c (.int 0)) .nil))) (.cons (.c (.str "0")) .nil))) (.app sNe (.cons (.v 0) (.cons (.c (.str "0")) .nil)))) (c_parse_number_4) .skip)
def c_parse_number_6 : S := (.ret (.app sIntS (.cons (.v 0) .nil)))
def c_parse_number : S := (.seq (c_parse_number_1) (.seq (c_parse_number_3) (.seq (c_parse_number_5) (c_parse_number_6))))
end G

/-! GFin: try: body / finally: suite, where errors (whose context is None) may leave the body. -/
namespace L2F
open PySem PySem.Spec PyProof.Rows L2 L2N
section
variable {X : Cx} {pins : List (Addr × Obj)} {σ : L2.St} {H : Hp} {s : Shared} {D : L2.Ends} {Wo : WX} {a T : Addr} {oe oT : Obj} {vs ts : Array Value} {cls : Value} {d : Option Addr}
end
end L2F

/-! GFinJ: try: .. finally: .. in the core. -/
namespace G
open PySem PySem.Spec L2
/-- a statement's reading by its core term -/
def tCoreS (X : Cx) (c : S) (W : WX) : TS := fun D σ H => ∃ wd F τ cs P, Rl X.K wd F cs H ∧ RS X.K wd τ σ ∧ wpS c τ cs P ∧ EOk X W wd F P D
section
variable {X : Cx} {W : WX} {body : List Stmt} {f₀ : Stmt} {fs sts : List Stmt} {pos : Pos} {ca cb c : S} {pn : List (Addr × Obj)} {xe : Value → Shared → Prop} {a : Addr} {k : Nat}
theorem coreS_nox (h : JSs X.nox W sts c) : PSs X.nox sts (tCoreS X c W) := by
  obtain ⟨t, p, r⟩ := h
  exact ⟨fun pins s σ H D I ⟨wd, F, τ, cs, P, R, rs, hw, q⟩ => p.run pins s σ H D I (r wd F τ cs σ H P D R rs hw ⟨q.nx, q.bk, q.ct, q.rt, q.ex⟩)⟩
theorem Ct.tr (C : Ct X W k) {W' : WX} (tk : L2N.Takes (X.tr pn xe) W') (po : PassesOwn (model X.prog X.w) X.A X.env xe) : Ct (X.tr pn xe) W' k := ⟨C.hc, C.hN, po, tk, C.hr⟩
theorem Ct.use {P : Prop} (C : Ct X W k) (h : Ct X W k → P) : P := h C
abbrev noW : WX := fun _ _ _ _ => False
end
end G

/-! GTry: try: .. except C: .. (an own class, without a name) in the core; try whose body raises nothing. -/
namespace G
open PySem PySem.Spec L2
/-- what the module says of a class that is caught: an error of the class is caught by it -/
structure CatK (K : PySem.W.Frag) (mg : Str → Option Value) (x : Str) : Prop where
  ex : ∃ C, mg x = some (.ref C) ∧ PySem.W.exmOne K (.ref C) (.ref C) = some true
section
variable {X : Cx} {W : WX} {body su : List Stmt} {b₀ : Stmt} {x : Str} {np pos pos' : Pos} {ca cb : S}
/-- a try whose body raises nothing -/
theorem Ct.nox {k : Nat} (C : Ct X W k) : Ct X.nox noW k := ⟨C.hc, C.hN, PassesOwn.never, takesN, C.hr⟩
theorem js_tryN {h₀ : ExceptHandler} {hs : List ExceptHandler} (hb : JSs X.nox noW body ca) : JS X W (.Try body (h₀ :: hs) [] [] pos) (.tr (fun _ => true) ca fun _ => G.stuck) := by
  refine ⟨_, ps_try_thru0 (coreS_nox hb), fun wd F τ cs σ H P Q R rs h q => ?_⟩
  exact ⟨wd, F, τ, cs, _, R, rs, h, ⟨q.nx, q.bk, q.ct, q.rt, fun wd1 x1 τ1 c1 σ1 cls dd H1 l1 R1 rs1 rx h1 => by
    have h1 : wpS G.stuck τ1 c1 P := by simpa using h1
    exact h1.elim⟩⟩
end
end G

/-! GKp: what stands still but for some cells. -/
namespace G
open PySem (Str)
/-- the cells that stand, but for those of own -/
def Kp (own : List Nat) (cs cs' : Cs) : Prop := ∀ m, m ∉ own → cs m ≠ none → cs' m = cs m
theorem Kp.refl {own : List Nat} {cs : Cs} : Kp own cs cs := fun _ _ _ => rfl
theorem Kp.at_ {own : List Nat} {cs cs' : Cs} (k : Kp own cs cs') {m : Nat} {o : Ob} (h : cs m = some o) (hm : m ∉ own) : cs' m = some o := by
  rw [k m hm (by rw [h]; exact fun z => by cases z), h]
theorem Kp.mono {own own' : List Nat} {cs cs' : Cs} (k : Kp own cs cs') (h : ∀ m ∈ own, m ∈ own') : Kp own' cs cs' := fun m hm => k m fun z => hm (h m z)
theorem Kp.trans {own : List Nat} {c1 c2 c3 : Cs} (k : Kp own c1 c2) (k' : Kp own c2 c3) : Kp own c1 c3 := fun m hm h => by
  have e := k m hm h
  rw [k' m hm (by rw [e]; exact h), e]
/-- cells made meanwhile count, too -/
theorem Kp.trans' {own own' : List Nat} {c1 c2 c3 : Cs} (k : Kp own c1 c2) (k' : Kp own' c2 c3) (h : ∀ m ∈ own', m ∉ own → c1 m = none) : Kp own c1 c3 := fun m hm hn => by
  have e := k m hm hn
  rw [k' m (fun z => hn (h m z hm)) (by rw [e]; exact hn), e]
theorem Kp.fresh {cs c : Cs} (k : Kp [] cs c) {x : Nat} (h : c x = none) : cs x = none := by
  cases e : cs x with
  | none => rfl
  | some o =>
    have := k x (by simp) (by rw [e]; exact fun z => by cases z)
    rw [h, e] at this
    cases this
theorem Kp.le {cs c : Cs} (k : Kp [] cs c) : Le cs c := fun n o e => by
  rw [k n (by simp) (by rw [e]; exact fun z => by cases z), e]
theorem Kp.own {cs0 c c' : Cs} {own : List Nat} (k : Kp [] cs0 c) (k' : Kp own c c') (f : ∀ x ∈ own, cs0 x = none) : Kp [] cs0 c' := k.trans' k' fun m hm _ => f m hm
end G

/-! GObjL: instances of own classes over the layer: attribute targets; methods and makers where what is raised is wished for at the caller's slots. -/
namespace L2
open PySem PySem.Spec PyProof.Rows
section
variable {X : Cx} {CX : CXT} {k : Nat} {f C : Addr} {fd : FuncData} {ps ks : List Str} {sp : Sp} {dvs : List V} {ds : List Value} {E : St → XK} {x m : Str} {p pos apos : Pos} {e o : Expr} {es : List Expr} {kws : List Keyword} {ta : TE} {t tk : TA}
/-- o.f = .., as a target -/
def gAttr (K : PySem.W.Frag) (C : Addr) (to : TE) (f : Str) : TG := fun v σ H Q => to σ H fun o H1 => ∃ a dx fs, o = .ref a ∧ H1 a = some (.ins C dx fs) ∧ fs.length < 1000 ∧ Q σ (upd H1 a (.ins C dx (putF f v fs)))
theorem pg_attr {g : Str} {to : TE} (c : Cls X.K C) (n : NoAttr X.K C g) (ho : PE X o to) : PG X (.Attribute o g pos) (gAttr X.K C to g) := by
  refine ⟨fun pins s σ H v u Q I r h => ?_⟩
  rw [assign_Attribute]
  refine wpAny_bind (wpAny_holding (thn (ho.run pins s σ H _ I h) fun ov s1 ⟨y, H1, I1, rx, a, dx, fs, ex, ea, l, q⟩ => ?_))
  subst ex
  obtain rfl : ov = Value.ref a := rx
  refine wpAny_bind (wpAny_standAt (wpAny_bind (wpAny_holding (setattr_ok I1 ea c n l r fun s3 I3 => ?_))))
  exact wpAny_release ⟨σ, _, I3, q⟩
def tMethSD (C : Addr) (m : Str) (sp : Sp) (E : St → XK) (ta : TE) (t : TA) : TE := fun σ H Q => ta σ H fun x H1 => ∃ a dx fs, x = .ref a ∧ H1 a = some (.ins C dx fs) ∧ fs.lookup m = none ∧
  t σ H1 fun vs H2 => sp (x :: vs) H2 Q (E σ)
theorem pe_methSD {pl : Sem Bool} (he : PE X o ta) (c : Cls X.K C) (hm : Meth X.K C m f) (F : FnOk X.prog X.w X.K X.mg X.base CX k f fd ps sp) (hr : Room k X.A) (hb : Binds X.K fd ps []) (hx : ∀ σ, PassesAt CX X σ (E σ)) (ha : PA X (e :: es) t)
    (hst : starEach (e :: es) X.env = (false, eval e X.env) :: starEach es X.env := by rfl) (hpl : (backTo pos (starEach es X.env)).any (·.1) = false := by rfl)
    (ht : eval (.Call (.Attribute o m apos) (e :: es) [] pos) X.env = (do
      let ov ← eval o X.env
      standAt apos.atName
      let (f, first) ← holding [ov] (getMethod ov m pl)
      callWith pos f first (backTo pos (starEach (e :: es) X.env)) (backToKw pos (keywordEach [] X.env))) := by rfl) :
    PE X (.Call (.Attribute o m apos) (e :: es) [] pos) (tMethSD C m sp E ta t) := by
  refine ⟨fun pins s σ H Q I h => ?_⟩
  refine PySem.W.methodCall_KW (pl := pl) (thn (he.run pins s σ H _ I h) fun u s1 ⟨x, H1, I1, rx, a, dx, fs, ex, ea, l, q⟩ => ?_) ht
  subst ex
  obtain rfl : u = Value.ref a := rx
  refine getmeth_ok I1 ea c hm l ?_
  refine PySem.W.callWith_K (first := [.ref a]) (h₀ := X.base) I.ok.mod.kin hm.kp (thn (ha.run pos pins s1 σ H1 _ I1 q) fun us s2 ⟨vs, H2, I2, r, q2⟩ => ⟨I2.kIn, ?_⟩) hst hpl
  exact run_fnSD (us := .ref a :: us) (vs := .ref a :: vs) (dvs := []) F hr hb .nil (hx σ) I2 (.cons rfl r) (by rw [List.append_nil]; exact q2)
theorem pe_methSD0 {pl : Sem Bool} (he : PE X o ta) (c : Cls X.K C) (hm : Meth X.K C m f) (F : FnOk X.prog X.w X.K X.mg X.base CX k f fd ps sp) (hr : Room k X.A) (hb : Binds X.K fd ps []) (hx : ∀ σ, PassesAt CX X σ (E σ))
    (ht : eval (.Call (.Attribute o m apos) [] [] pos) X.env = (do
      let ov ← eval o X.env
      standAt apos.atName
      let (f, first) ← holding [ov] (getMethod ov m pl)
      callWith pos f first (backTo pos (starEach [] X.env)) (backToKw pos (keywordEach [] X.env))) := by rfl) :
    PE X (.Call (.Attribute o m apos) [] [] pos) (tMethSD C m sp E ta tNil) := by
  refine ⟨fun pins s σ H Q I h => ?_⟩
  refine PySem.W.methodCall_KW (pl := pl) (thn (he.run pins s σ H _ I h) fun u s1 ⟨x, H1, I1, rx, a, dx, fs, ex, ea, l, q⟩ => ?_) ht
  subst ex
  obtain rfl : u = Value.ref a := rx
  refine getmeth_ok I1 ea c hm l ?_
  exact PySem.W.callWith_K0 (first := [.ref a]) I1.kIn hm.kp (run_fnSD (us := [.ref a]) (vs := [.ref a]) (dvs := []) F hr hb .nil (hx σ) I1 (.cons rfl .nil) q)
def tMakeSD (C : Addr) (sp : Sp) (E : St → XK) (t : TA) : TE := fun σ H Q => t σ H fun vs H1 => ∀ x dx, H1 x = none → H1 dx = none → dx ≠ x →
  sp (.ref x :: vs) (upd (upd H1 dx (.own x)) x (.ins C dx [])) (fun v H2 => v = .non ∧ Q (.ref x) H2) (E σ)
theorem run_makeSD {pins : List (Addr × Obj)} {σ : St} {H : Hp} {s : Shared} {Q : VK} {us : List Value} {vs : List V} (M : Mk X.K C f) (F : FnOk X.prog X.w X.K X.mg X.base CX k f fd ps sp) (hr : Room (k + 1) X.A) (hb : Binds X.K fd ps [])
    (hx : PassesAt CX X σ (E σ)) (I : Inv X pins σ H s) (r : Vals vs us)
    (h : ∀ x dx, H x = none → H dx = none → dx ≠ x → sp (.ref x :: vs) (upd (upd H dx (.own x)) x (.ins C dx [])) (fun v H2 => v = .non ∧ Q (.ref x) H2) (E σ)) :
    wpAny (model X.prog X.w) X.A (call (.ref C) us) (EP X pins σ Q) X.xe s := by
  have hq := h (s.heap.objs.size + 1) s.heap.objs.size (I.hok.fresh (Nat.le_succ _)) (I.hok.fresh (Nat.le_refl _)) (Nat.ne_of_lt (Nat.lt_succ_self _))
  have I2 := Inv.made (C := C) I
  have r2 : Vals (V.ref (s.heap.objs.size + 1) :: vs) (Value.ref (s.heap.objs.size + 1) :: us) := .cons rfl r
  have hl : (Value.ref (s.heap.objs.size + 1) :: us ++ []).length = ps.length := by
    have e := r2.length
    rw [F.len _ _ _ _ hq] at e
    rw [List.append_nil]
    exact e.symm
  have hb' := hb _ (Value.ref (s.heap.objs.size + 1) :: us) I2.kIn hl
  rw [List.append_nil] at hb'
  refine wpAny_call (make_map (f := f) I.kIn M.makes M.init (beq_iff_eq.mp M.fn) (codeAny_mono (F.run _ X.stack _ _ ⟨Value.ref (s.heap.objs.size + 1) :: us, []⟩ (Value.ref (s.heap.objs.size + 1) :: us) _ _ (E σ) (hr.make C us [])
    (I2.env0.make C us []) hb' r2 hq) fun r s' hq' => ?_))
  cases r with
  | error e => exact hx pins _ _ e s' I2 hq'
  | ok fl =>
    cases fl with
    | ret u =>
      obtain ⟨v, H', I3, rv, ev, q3⟩ := I2.after hq'
      subst ev
      exact ⟨rv, ⟨V.ref (s.heap.objs.size + 1), H', I3, rfl, q3⟩⟩
    | next => exact False.elim hq'
    | brk => exact False.elim hq'
    | cont => exact False.elim hq'
theorem pe_makeSD (M : Mk X.K C f) (F : FnOk X.prog X.w X.K X.mg X.base CX k f fd ps sp) (hr : Room (k + 1) X.A) (hg : Gl X x) (hm : X.mg x = some (.ref C)) (hb : Binds X.K fd ps []) (hx : ∀ σ, PassesAt CX X σ (E σ))
    (ha : PA X (e :: es) t) (hdb : (x == ("__debug__" : Str)) = false := by decide) (he : starEach (e :: es) X.env = (false, eval e X.env) :: starEach es X.env := by rfl) (hpl : (backTo pos (starEach es X.env)).any (·.1) = false := by rfl) :
    PE X (.Call (.Name x p) (e :: es) [] pos) (tMakeSD C sp E t) := by
  refine ⟨fun pins s σ H Q I h => ?_⟩
  refine wpAny_Call_Name_kw (ld_glob I hg hm ?_ hdb)
  refine PySem.W.callWith_K (h₀ := X.base) I.ok.mod.kin M.kp (thn (ha.run pos pins s σ H _ I h) fun us s1 ⟨vs, H1, I1, r, q⟩ => ⟨I1.kIn, ?_⟩) he hpl
  exact run_makeSD M F hr hb (hx σ) I1 r q
end
end L2

/-! GObj: instances of own classes as cells: made, attributes read and written, methods. -/
namespace G
open PySem PySem.Spec L2
abbrev Fs := List (Str × D)
def setF (f : Str) (d : D) : Fs → Fs
  | [] => [(f, d)]
  | (g, x) :: r => if g = f then (g, d) :: r else (g, x) :: setF f d r
/-- the attributes of an instance -/
structure InsR (K : PySem.W.Frag) (wd : Wd) (fs : Fs) (gs : List (Str × V)) : Prop where
  ks : gs.map (·.1) = fs.map (·.1)
  vs : RpL K wd (fs.map (·.2)) (gs.map (·.2))
section
variable {K : PySem.W.Frag} {wd wd' : Wd} {F H : Hp} {cs : Cs}
theorem InsR.nil : InsR K wd [] [] := ⟨rfl, rfl⟩
theorem InsR.cons {f : Str} {d : D} {v : V} {fs : Fs} {gs : List (Str × V)} (r : Rp K wd d v) (h : InsR K wd fs gs) : InsR K wd ((f, d) :: fs) ((f, v) :: gs) := ⟨by rw [List.map_cons, List.map_cons, h.ks], v, _, rfl, r, h.vs⟩
theorem InsR.inv {f : Str} {d : D} {fs : Fs} {gs : List (Str × V)} (h : InsR K wd ((f, d) :: fs) gs) : ∃ v gs', gs = (f, v) :: gs' ∧ Rp K wd d v ∧ InsR K wd fs gs' := by
  obtain ⟨v, r, e, h1, h2⟩ := h.vs
  have k := h.ks
  match gs, e, k with
  | (g, x) :: gs', e, k =>
    rw [List.map_cons, List.map_cons, List.cons.injEq] at k
    rw [List.map_cons, List.cons.injEq] at e
    obtain ⟨e1, e2⟩ := e
    obtain ⟨k1, k2⟩ := k
    dsimp only at e1 k1
    subst e1 k1
    exact ⟨_, gs', rfl, h1, k2, by rw [e2]; exact h2⟩
  | [], e, _ => cases e
theorem InsR.inv0 {gs : List (Str × V)} (h : InsR K wd [] gs) : gs = [] := List.map_eq_nil_iff.mp h.ks
theorem InsR.mono (l : wd.le wd') {fs : Fs} {gs : List (Str × V)} (h : InsR K wd fs gs) : InsR K wd' fs gs := ⟨h.ks, RpL.mono l _ _ h.vs⟩
theorem InsR.get {f : Str} {d : D} : ∀ {fs : Fs} {gs : List (Str × V)}, InsR K wd fs gs → fs.lookup f = some d → ∃ v, gs.lookup f = some v ∧ Rp K wd d v
  | [], _, _, e => by cases e
  | (g, x) :: fs, gs, h, e => by
    obtain ⟨v, gs', rfl, r, h'⟩ := h.inv
    rw [List.lookup_cons] at e ⊢
    cases q : f == g with
    | true =>
      rw [q] at e
      cases e
      exact ⟨v, rfl, r⟩
    | false =>
      rw [q] at e
      exact h'.get e
theorem InsR.none {f : Str} : ∀ {fs : Fs} {gs : List (Str × V)}, InsR K wd fs gs → fs.lookup f = none → gs.lookup f = none
  | [], gs, h, _ => by rw [h.inv0]; rfl
  | (g, x) :: fs, gs, h, e => by
    obtain ⟨v, gs', rfl, r, h'⟩ := h.inv
    rw [List.lookup_cons] at e ⊢
    cases q : f == g with
    | true =>
      rw [q] at e
      cases e
    | false =>
      rw [q] at e
      exact h'.none e
theorem InsR.put {f : Str} {d : D} {v : V} : ∀ {fs : Fs} {gs : List (Str × V)}, InsR K wd fs gs → Rp K wd d v → InsR K wd (setF f d fs) (putF f v gs)
  | [], gs, h, r => by
    rw [h.inv0]
    exact .cons r .nil
  | (g, x) :: fs, gs, h, r => by
    obtain ⟨w, gs', rfl, r', h'⟩ := h.inv
    unfold setF putF
    by_cases q : g = f
    · rw [if_pos q, if_pos q]
      exact .cons r h'
    · rw [if_neg q, if_neg q]
      exact .cons r' (h'.put r)
theorem InsR.len {fs : Fs} {gs : List (Str × V)} (h : InsR K wd fs gs) : gs.length = fs.length := by
  have := congrArg List.length h.ks
  simpa using this
/-- an object that the state says nothing of -/
theorem Rl.junk (R : Rl K wd F cs H) {p : Addr} (hp : H p = none) (o : HO) (ho : ∀ q, o ≠ .tbl q) : Rl K wd F cs (upd H p o) := by
  refine ⟨fun a u e => ?_, fun a u e => ?_, R.bf, R.inj, fun n u e => ?_, fun n a e => ?_, R.top, R.rf, R.fe, R.tabNew hp (Evl.Ex.refl _), R.bt⟩
  · rw [upd_ne (ne_of_none (R.b a u e) hp)]
    exact R.b a u e
  · rw [upd_ne (ne_of_none (R.f a u e) hp)]
    exact R.f a u e
  · obtain ⟨a, v, e1, e2, e3, e4, e5⟩ := R.cell n u e
    exact ⟨a, v, e1, e2, e3, (upd_ne (ne_of_none e4 hp)).trans e4, e5⟩
  · obtain ⟨u, hu, hn⟩ := R.ran n a e
    exact ⟨u, by rw [upd_ne (ne_of_none hu hp)]; exact hu, hn⟩
theorem Rl.insAt (R : Rl K wd F cs H) {n C : Nat} {v : V} {fs : Fs} (r : Rp K wd (.ref n) v) (hc : cs n = some (.ins C fs)) :
    ∃ a dx gs, v = .ref a ∧ H a = some (.ins C dx gs) ∧ InsR K wd fs gs ∧ ∀ fs' gs', InsR K wd fs' gs' → Rl K wd F (put cs n (.ins C fs')) (upd H a (.ins C dx gs')) := by
  obtain ⟨a, e1, e2⟩ := r
  obtain ⟨a', u, f1, f2, f3, f4, f5⟩ := R.cell n _ hc
  have ea : a' = a := Option.some.inj (f1.symm.trans e1)
  subst ea
  obtain ⟨dx, gs, rfl, k, r⟩ := f5
  exact ⟨a', dx, gs, e2, f4, ⟨k, r⟩, fun fs' gs' h => R.write ⟨_, hc⟩ f1 ⟨dx, gs', rfl, h.ks, h.vs⟩⟩
theorem Rl.insNew (R : Rl K wd F cs H) {x dx : Addr} (C : Nat) (h1 : H x = none) (h2 : H dx = none) (ne : dx ≠ x) :
    ∃ n wd', cs n = none ∧ wd.le wd' ∧ Rl K wd' F (put cs n (.ins C [])) (upd (upd H dx (.own x)) x (.ins C dx [])) ∧ Rp K wd' (.ref n) (.ref x) := by
  have R1 := R.junk h2 (.own x) (fun q z => by cases z)
  have h1' : upd H dx (.own x) x = none := by rw [upd_ne (Ne.symm ne)]; exact h1
  obtain ⟨n, wd', hn, le, hr, R'⟩ := R1.cellNew h1' (o := .ins C []) (u := .ins C dx []) ⟨dx, [], rfl, rfl, rfl⟩
  exact ⟨n, wd', hn, le, R', x, hr, rfl⟩
end
/-! ### operations -/
def sFld (C : Nat) (f : Str) : Spec := fun ds cs Q _ => ∃ n fs d, ds = [.ref n] ∧ cs n = some (.ins C fs) ∧ fs.lookup f = some d ∧ Q d cs
def sSetF3 (C : Nat) (f g h : Str) : Spec := fun ds cs Q _ => ∃ n fs d e b, ds = [.tup [d, e, b], .ref n] ∧ cs n = some (.ins C fs) ∧ fs.length < 998 ∧ Q .non (put cs n (.ins C (setF h b (setF g e (setF f d fs)))))
def sMk (C : Nat) (sp : Spec) : Spec := fun ds cs Q X => ∀ n, cs n = none → sp (.ref n :: ds) (put cs n (.ins C [])) (fun v c => v = .non ∧ Q (.ref n) c) X
def chkI (C : Nat) (m : Str) (d : D) (cs : Cs) : Prop := ∃ n fs, d = .ref n ∧ cs n = some (.ins C fs) ∧ fs.lookup m = none
theorem setF_len {f : Str} {d : D} : ∀ {fs : Fs}, (setF f d fs).length ≤ fs.length + 1
  | [] => Nat.le_refl _
  | (g, x) :: r => by
    unfold setF
    split
    · simp
    · have := setF_len (f := f) (d := d) (fs := r)
      simp
      omega
/-- a method: level, number of parameters with self, promise -/
structure FnM (P : Program) (w : World) (K : PySem.W.Frag) (mg : Str → Option Value) (base : Heap) (C : Addr) (m : Str) (k n : Nat) (sp : Spec) : Prop where
  ex : ∃ f fd ps, ps.length = n ∧ Cls K C ∧ Meth K C m f ∧ FnOk P w K mg base (L2N.CX P w) k f fd ps (lift K mg sp) ∧ Binds K fd ps []
/-- a class: the level of its __init__, its number of parameters with self, its promise -/
structure FnI (P : Program) (w : World) (K : PySem.W.Frag) (mg : Str → Option Value) (base : Heap) (x : Str) (C : Addr) (k n : Nat) (sp : Spec) : Prop where
  ex : ∃ f fd ps, ps.length = n ∧ mg x = some (.ref C) ∧ Mk K C f ∧ FnOk P w K mg base (L2N.CX P w) k f fd ps (lift K mg sp) ∧ Binds K fd ps []
section
variable {X : Cx} {W : WX} {pos p apos : Pos} {e o value : Expr} {es : List Expr} {ces : Es} {co cv : E} {sp : Spec} {x f m : Str} {k n : Nat} {C : Addr}
theorem j_fld (c : Cls X.K C) (hn : NoAttr X.K C f) (ho : JE X W o co) (hb : attributeBase o f X.env (eval o X.env) = eval o X.env := by rfl) : JE X W (.Attribute o f pos) (.app (sFld C f) (.cons co .nil)) := by
  obtain ⟨to, p1, r1⟩ := ho
  refine ⟨_, L2.pe_fld p1 hb, fun wd F τ cs σ H P PX Q R rs h q x => ?_⟩
  refine r1 wd F τ cs σ H _ PX _ R rs h (fun wd1 d1 c1 v1 H1 l1 R1 rv1 h1 => ?_) x
  obtain ⟨n, fs, d, ed, hc, hl, hP⟩ := h1
  simp only [List.cons.injEq, and_true] at ed
  subst ed
  obtain ⟨a, dx, gs, ea, hH, hr, _⟩ := R1.insAt rv1 hc
  obtain ⟨v, hv, rv⟩ := hr.get hl
  exact ⟨a, C, dx, gs, v, ea, hH, c, hn, hv, q wd1 d c1 v H1 l1 R1 rv hP⟩
theorem j_meth {pl : Sem Bool} (F : FnM X.prog X.w X.K X.mg X.base C m k n sp) (hr : Room k X.A) (tk : L2N.Takes X W) (ho : JE X W o co) (ha : JA X W (e :: es) ces)
    (hst : starEach (e :: es) X.env = (false, eval e X.env) :: starEach es X.env := by rfl) (hpl : (backTo pos (starEach es X.env)).any (·.1) = false := by rfl)
    (ht : eval (.Call (.Attribute o m apos) (e :: es) [] pos) X.env = (do
      let ov ← eval o X.env
      standAt apos.atName
      let (f, first) ← holding [ov] (getMethod ov m pl)
      callWith pos f first (backTo pos (starEach (e :: es) X.env)) (backToKw pos (keywordEach [] X.env))) := by rfl) : JE X W (.Call (.Attribute o m apos) (e :: es) [] pos) (.meth (chkI C m) sp co ces) := by
  obtain ⟨f, fd, ps, en, c, hm, ok, b⟩ := F.ex
  obtain ⟨to, p1, r1⟩ := ho
  obtain ⟨ta, p2, r2⟩ := ha
  refine ⟨_, pe_methSD p1 c hm ok hr b (fun σ => L2N.passAt tk σ) p2 hst hpl ht, fun wd F τ cs σ H P PX Q R rs h q x => ?_⟩
  refine r1 wd F τ cs σ H _ PX _ R rs h (fun wd1 d1 c1 v1 H1 l1 R1 rv1 h1 => ?_) x
  obtain ⟨⟨n0, fs, ed, hc, hl⟩, h1⟩ := h1
  subst ed
  obtain ⟨a, dx, gs, ea, hH, hr, _⟩ := R1.insAt rv1 hc
  refine ⟨a, dx, gs, ea, hH, hr.none hl, ?_⟩
  refine r2 wd1 F τ c1 σ H1 _ PX _ R1 (rs.mono l1) h1 (fun wd2 ds c2 vs H2 l2 R2 rv h2 => ?_) (x.mono l1)
  exact ⟨wd2, F, c2, .ref n0 :: ds, P, PX, R2, ⟨v1, vs, rfl, Rp.mono l2 _ _ rv1, rv⟩, h2, q.mono (l1.trans l2), fun wd' y cs' cls dd H' l R' rx z => x wd' y cs' cls dd H' ((l1.trans l2).trans l) R' rx z⟩
theorem j_meth0 {pl : Sem Bool} (F : FnM X.prog X.w X.K X.mg X.base C m k n sp) (hr : Room k X.A) (tk : L2N.Takes X W) (ho : JE X W o co)
    (ht : eval (.Call (.Attribute o m apos) [] [] pos) X.env = (do
      let ov ← eval o X.env
      standAt apos.atName
      let (f, first) ← holding [ov] (getMethod ov m pl)
      callWith pos f first (backTo pos (starEach [] X.env)) (backToKw pos (keywordEach [] X.env))) := by rfl) : JE X W (.Call (.Attribute o m apos) [] [] pos) (.meth (chkI C m) sp co .nil) := by
  obtain ⟨f, fd, ps, en, c, hm, ok, b⟩ := F.ex
  obtain ⟨to, p1, r1⟩ := ho
  refine ⟨_, pe_methSD0 p1 c hm ok hr b (fun σ => L2N.passAt tk σ) ht, fun wd F τ cs σ H P PX Q R rs h q x => ?_⟩
  refine r1 wd F τ cs σ H _ PX _ R rs h (fun wd1 d1 c1 v1 H1 l1 R1 rv1 h1 => ?_) x
  obtain ⟨⟨n0, fs, ed, hc, hl⟩, h1⟩ := h1
  subst ed
  rw [wpEs] at h1
  obtain ⟨a, dx, gs, ea, hH, hr, _⟩ := R1.insAt rv1 hc
  refine ⟨a, dx, gs, ea, hH, hr.none hl, ?_⟩
  exact ⟨wd1, F, c1, [.ref n0], P, PX, R1, ⟨v1, [], rfl, rv1, rfl⟩, h1, q.mono l1, fun wd' y cs' cls dd H' l R' rx z => x wd' y cs' cls dd H' (l1.trans l) R' rx z⟩
theorem j_make (F : FnI X.prog X.w X.K X.mg X.base x C k n sp) (hr : Room (k + 1) X.A) (tk : L2N.Takes X W) (hg : Gl X x) (ha : JA X W (e :: es) ces) (hdb : (x == ("__debug__" : Str)) = false := by decide)
    (he : starEach (e :: es) X.env = (false, eval e X.env) :: starEach es X.env := by rfl) (hpl : (backTo pos (starEach es X.env)).any (·.1) = false := by rfl) : JE X W (.Call (.Name x p) (e :: es) [] pos) (.app (sMk C sp) ces) := by
  obtain ⟨f, fd, ps, en, hm, M, ok, b⟩ := F.ex
  obtain ⟨ta, p1, r1⟩ := ha
  refine ⟨_, pe_makeSD M ok hr hg hm b (fun σ => L2N.passAt tk σ) p1 hdb he hpl, fun wd F τ cs σ H P PX Q R rs h q x => ?_⟩
  refine r1 wd F τ cs σ H _ PX _ R rs h (fun wd1 ds c1 vs H1 l1 R1 rv h1 => fun y dx hy hdx ne => ?_) x
  obtain ⟨n0, wd2, hn, l2, R2, rn⟩ := R1.insNew C hy hdx ne
  refine ⟨wd2, F, _, .ref n0 :: ds, _, PX, R2, ⟨.ref y, vs, rfl, rn, RpL.mono l2 _ _ rv⟩, h1 n0 hn, fun wd3 d c3 v H3 l3 R3 rv3 hP => ?_, fun wd' y cs' cls dd H' l R' rx z => x wd' y cs' cls dd H' ((l1.trans l2).trans l) R' rx z⟩
  obtain ⟨ed, hP⟩ := hP
  subst ed
  have ev : v = .non := rv3
  exact ⟨ev, q wd3 _ c3 _ H3 ((l1.trans l2).trans l3) R3 (Rp.mono l3 _ _ rn) hP⟩
end
end G

/-! GEq: the weakest preconditions one step at a time. -/
namespace G
theorem wpE_v {i : Nat} {σ : Sl} {cs : Cs} {Q : KD} {X : KX} : wpE (.v i) σ cs Q X = match getV σ i with
    | some d => Q d cs
    | none => False := by first | (rw [wpE]; cases getV σ i <;> rfl) | rw [wpE]
theorem wpE_c {d : D} {σ : Sl} {cs : Cs} {Q : KD} {X : KX} : wpE (.c d) σ cs Q X = Q d cs := by rw [wpE]
theorem wpE_app {sp : Spec} {as : Es} {σ : Sl} {cs : Cs} {Q : KD} {X : KX} : wpE (.app sp as) σ cs Q X = wpEs as σ cs (fun ds cs' => sp ds cs' Q X) X := by rw [wpE]
theorem wpE_meth {chk : D → Cs → Prop} {sp : Spec} {o : E} {as : Es} {σ : Sl} {cs : Cs} {Q : KD} {X : KX} : wpE (.meth chk sp o as) σ cs Q X = wpE o σ cs (fun d c1 => chk d c1 ∧ wpEs as σ c1 (fun ds c2 => sp (d :: ds) c2 Q X) X) X := by rw [wpE]
theorem wpEs_nil {σ : Sl} {cs : Cs} {Q : List D → Cs → Prop} {X : KX} : wpEs .nil σ cs Q X = Q [] cs := by rw [wpEs]
theorem wpEs_cons {e : E} {es : Es} {σ : Sl} {cs : Cs} {Q : List D → Cs → Prop} {X : KX} : wpEs (.cons e es) σ cs Q X = wpE e σ cs (fun d c1 => wpEs es σ c1 (fun ds c2 => Q (d :: ds) c2) X) X := by rw [wpEs]
end G

/-! GObjK: methods and makers called with keywords; attributes assigned two or three at once. -/
namespace G
open PySem PySem.Spec L2
open Evl (Ex)
/-- a method called with n values (self among them) and the keywords ks -/
structure FnMK (P : Program) (w : World) (K : PySem.W.Frag) (mg : Str → Option Value) (base : Heap) (C : Addr) (m : Str) (k n : Nat) (ks : List Str) (ix : List Nat) (sp : Spec) : Prop where
  ex : ∃ f fd ps, Cls K C ∧ Meth K C m f ∧ FnOk P w K mg base (L2N.CX P w) k f fd ps (lift K mg sp) ∧
    ∀ (s : Shared) (us ws : List Value), us.length = n → ws.length = ks.length → BindsTo s fd ⟨us, ks.zip ws⟩ (ps.zip (permL ix (us ++ ws)))
/-- a class made with n values and the keywords ks -/
structure FnIK (P : Program) (w : World) (K : PySem.W.Frag) (mg : Str → Option Value) (base : Heap) (x : Str) (C : Addr) (k n : Nat) (ks : List Str) (ix : List Nat) (sp : Spec) : Prop where
  ex : ∃ f fd ps, mg x = some (.ref C) ∧ Mk K C f ∧ FnOk P w K mg base (L2N.CX P w) k f fd ps (lift K mg sp) ∧
    ∀ (s : Shared) (u : Value) (us ws : List Value), us.length = n → ws.length = ks.length → BindsTo s fd ⟨u :: us, ks.zip ws⟩ (ps.zip (u :: permL ix (us ++ ws)))
section
variable {X : Cx} {W : WX} {pos p apos : Pos} {e o value : Expr} {es : List Expr} {kws : List Keyword} {ces cks : Es} {co cv : E} {sp : Spec} {x f m : Str} {k n : Nat} {C : Addr} {ks : List Str} {ix : List Nat}
end
end G

/-! GObjS: two or three attributes assigned from a tuple. -/
namespace G
open PySem PySem.Spec L2
section
variable {X : Cx} {W : WX} {pos p1 p2 p3 q1 q2 q3 tp : Pos} {value : Expr} {cv : E} {x f g h : Str} {i kk : Nat} {C : Addr}
theorem js_setF3 (c : Cls X.K C) (n1 : NoAttr X.K C f) (n2 : NoAttr X.K C g) (n3 : NoAttr X.K C h) (hc : X.calm = true) (hv : JE X W value cv) (i : Nat) (hN : X.N[i]? = some x := by rfl) (vis : Vis X.env.scope x := by first | exact Or.inl rfl | exact Or.inr (Or.inl rfl) | exact Or.inr (Or.inr rfl))
    (hd : (x == ("__debug__" : Str)) = false := by decide) (hcd : (x == ("__classdict__" : Str)) = false := by decide)
    (hs : swapsWithSole [.Tuple [.Attribute (.Name x q1) f p1, .Attribute (.Name x q2) g p2, .Attribute (.Name x q3) h p3] kk tp] value pos.line X.env = pure false := by rfl)
    (hw : swappedStores [.Tuple [.Attribute (.Name x q1) f p1, .Attribute (.Name x q2) g p2, .Attribute (.Name x q3) h p3] kk tp] value X.env = pure none := by rfl) :
    JS X W (.Assign [.Tuple [.Attribute (.Name x q1) f p1, .Attribute (.Name x q2) g p2, .Attribute (.Name x q3) h p3] kk tp] value pos) (.exp (.app (sSetF3 C f g h) (.cons cv (.cons (.v i) .nil)))) := by
  obtain ⟨tv, pv, rv⟩ := hv
  have v1 : PE X (.Name x q1) (tVar i) := pe_var hN vis hd hcd
  have v2 : PE X (.Name x q2) (tVar i) := pe_var hN vis hd hcd
  have v3 : PE X (.Name x q3) (tVar i) := pe_var hN vis hd hcd
  refine ⟨_, ps_asg pv (pg_tup hc (pgs_cons (pg_attr c n1 v1) (pgs_cons (pg_attr c n2 v2) (pgs_cons (pg_attr c n3 v3) pgs_nil)))) hs hw, fun wd F τ cs σ H P Q R rs hh q => ?_⟩
  refine rv wd F τ cs σ H _ _ _ R rs hh (fun wd1 d1 c1 v1 H1 l1 R1 rv1 h1 => ?_) (q.xok rs)
  have h1 : wpE (.v i) τ c1 (fun d c2 => sSetF3 C f g h [d1, d] c2 (fun _ c3 => P.nx τ c3) fun x c3 => P.ex x τ c3) (fun x c3 => P.ex x τ c3) := h1
  rw [wpE_v] at h1
  cases ei : getV τ i with
  | none =>
    rw [ei] at h1
    exact h1.elim
  | some d0 =>
    rw [ei] at h1
    obtain ⟨v0, s0, r0⟩ := rs.at_ i d0 ei
    obtain ⟨n, fs, d, e, b, ed, hcn, hl, hP⟩ := h1
    simp only [List.cons.injEq, and_true] at ed
    obtain ⟨e1, e2⟩ := ed
    subst e1 e2
    obtain ⟨t, xs, et, hB, hr⟩ := rv1
    obtain ⟨u1, u2, u3, ex, w1, w2, w3⟩ := RpL.three hr
    subst et ex
    have r0' := Rp.mono l1 _ _ r0
    obtain ⟨a, dx, gs, ea, hH, ir, put1⟩ := R1.insAt r0' hcn
    have R2 := put1 _ _ (ir.put (f := f) w1)
    obtain ⟨a2, dx2, gs2, ea2, hH2, ir2, put2⟩ := R2.insAt r0' put_same
    have R3 := put2 _ _ (ir2.put (f := g) w2)
    obtain ⟨a3, dx3, gs3, ea3, hH3, ir3, put3⟩ := R3.insAt r0' put_same
    have R4 := put3 _ _ (ir3.put (f := h) w3)
    rw [put_put, put_put] at R4
    refine ⟨t, [u1, u2, u3], rfl, .inl (.inl (R1.b _ _ hB)), rfl, u1, [u2, u3], rfl, ?_⟩
    refine ⟨v0, s0, a, dx, gs, ea, hH, by rw [ir.len]; omega, u2, [u3], rfl, ?_⟩
    have k1 := setF_len (f := f) (d := d) (fs := fs)
    have k2 := setF_len (f := g) (d := e) (fs := setF f d fs)
    subst ea
    cases ea2
    cases ea3
    refine ⟨.ref a, s0, a, dx2, gs2, rfl, hH2, by rw [ir2.len]; omega, u3, [], rfl, ?_⟩
    refine ⟨.ref a, s0, a, dx3, gs3, rfl, hH3, by rw [ir3.len]; omega, rfl, ?_⟩
    exact q.nx wd1 τ _ σ _ l1 R4 (rs.mono l1) hP
end
end G

/-! GWayG: bars of ways, told for all pairs; needed nodes one by one; ways counted. -/
namespace G
open PySem (Str)
/-! ### bars -/
def wrong (p q : List Nat) (i : Nat) : List Nat := (path p i).dropLast.filter fun j => !decide (par q j = root p i)
def barO (p q : List Nat) (i : Nat) : Option Nat := (wrong p q i).head?
def barred (p q : List Nat) : List Nat := (chg p q).filter fun i => (barO p q i).isSome
/-! ### needed nodes one by one -/
end G

/-! GSameR: _law_same of what denotes the same tree: cells count as their lists, at any depth. -/
namespace G
open PySem (Str)
def densW (f : D → Option D) : List D → Option (List D)
  | [] => some []
  | x :: xs => match f x, densW f xs with
    | some a, some b => some (a :: b)
    | _, _ => none
/-- the tree that a value denotes, not deeper -/
def den (cs : Cs) : Nat → D → Option D
  | _, .non => some .non
  | _, .bl b => some (.bl b)
  | _, .int i => some (.int i)
  | _, .str s => if strOk s then some (.str s) else none
  | k + 1, .lst xs => if xs.length ≤ lim then (densW (den cs k) xs).map .lst else none
  | k + 1, .tup xs => if xs.length ≤ lim then (densW (den cs k) xs).map .tup else none
  | k + 1, .ref n => match cs n with
    | some (.lst xs) => if xs.length ≤ lim then (densW (den cs k) xs).map .lst else none
    | _ => none
  | _, _ => none
def spSR : Nat → Spec
  | 0 => fun _ _ _ _ => False
  | k + 1 => fun ds cs Q _ => ∃ x y t, ds = [x, y] ∧ den cs k x = some t ∧ den cs k y = some t ∧ Q (.bl true) cs
theorem densW_len {f : D → Option D} : ∀ {xs ts : List D}, densW f xs = some ts → xs.length = ts.length
  | [], ts, h => by
    cases h
    rfl
  | x :: xs, ts, h => by
    unfold densW at h
    split at h
    · rename_i a b e1 e2
      cases h
      simp [densW_len e2]
    · cases h
theorem densW_zip {f : D → Option D} : ∀ {xs ys ts : List D}, densW f xs = some ts → densW f ys = some ts → ∀ d ∈ zipD xs ys, ∃ a b t, d = .tup [a, b] ∧ f a = some t ∧ f b = some t
  | [], _, _, _, _, d, hd => by cases hd
  | x :: xs, [], _, _, _, d, hd => by cases hd
  | x :: xs, y :: ys, ts, h, k, d, hd => by
    unfold densW at h k
    split at h
    · rename_i a b e1 e2
      cases h
      split at k
      · rename_i a2 b2 e3 e4
        cases k
        rcases List.mem_cons.mp (show d ∈ D.tup [x, y] :: zipD xs ys from hd) with z | z
        · exact ⟨x, y, a, z, e1, e3⟩
        · exact densW_zip e2 e4 d z
      · cases k
    · cases h
theorem zipD_len2 : ∀ {xs ys : List D}, xs.length = ys.length → (zipD xs ys).length = xs.length
  | [], [], _ => rfl
  | x :: xs, y :: ys, h => by
    show (zipD xs ys).length + 1 = _
    rw [zipD_len2 (by simpa using h)]
    rfl
/-- a list, or a cell with it -/
def LstAt (cs : Cs) (x : D) (xs : List D) : Prop := x = .lst xs ∨ ∃ n, x = .ref n ∧ cs n = some (.lst xs)
theorem den_lst {cs : Cs} {k : Nat} {x : D} {ts : List D} (h : den cs k x = some (.lst ts)) : ∃ k' xs, k = k' + 1 ∧ LstAt cs x xs ∧ xs.length ≤ lim ∧ densW (den cs k') xs = some ts := by
  cases k with
  | zero =>
    cases x with
    | str s =>
      simp only [den] at h
      split at h <;> cases h
    | _ => simp [den] at h
  | succ k =>
    cases x with
    | lst xs =>
      simp only [den] at h
      split at h
      · rename_i hl
        cases e : densW (den cs k) xs with
        | none =>
          rw [e] at h
          cases h
        | some ys =>
          rw [e] at h
          cases h
          exact ⟨k, xs, rfl, .inl rfl, hl, e⟩
      · cases h
    | ref n =>
      simp only [den] at h
      split at h
      · rename_i xs hc
        split at h
        · rename_i hl
          cases e : densW (den cs k) xs with
          | none =>
            rw [e] at h
            cases h
          | some ys =>
            rw [e] at h
            cases h
            exact ⟨k, xs, rfl, .inr ⟨n, rfl, hc⟩, hl, e⟩
        · cases h
      · cases h
    | tup xs =>
      simp only [den] at h
      split at h
      · cases e : densW (den cs k) xs with
        | none => rw [e] at h; cases h
        | some ys => rw [e] at h; cases h
      · cases h
    | str s =>
      simp only [den] at h
      split at h <;> cases h
    | _ => simp [den] at h
theorem den_tup {cs : Cs} {k : Nat} {x : D} {ts : List D} (h : den cs k x = some (.tup ts)) : ∃ k' xs, k = k' + 1 ∧ x = .tup xs ∧ xs.length ≤ lim ∧ densW (den cs k') xs = some ts := by
  cases k with
  | zero =>
    cases x with
    | str s =>
      simp only [den] at h
      split at h <;> cases h
    | _ => simp [den] at h
  | succ k =>
    cases x with
    | tup xs =>
      simp only [den] at h
      split at h
      · rename_i hl
        cases e : densW (den cs k) xs with
        | none =>
          rw [e] at h
          cases h
        | some ys =>
          rw [e] at h
          cases h
          exact ⟨k, xs, rfl, rfl, hl, e⟩
      · cases h
    | ref n =>
      simp only [den] at h
      split at h
      · split at h
        · rename_i xs _ _
          cases e : densW (den cs k) xs with
          | none => rw [e] at h; cases h
          | some ys => rw [e] at h; cases h
        · cases h
      · cases h
    | lst xs =>
      simp only [den] at h
      split at h
      · cases e : densW (den cs k) xs with
        | none => rw [e] at h; cases h
        | some ys => rw [e] at h; cases h
      · cases h
    | str s =>
      simp only [den] at h
      split at h <;> cases h
    | _ => simp [den] at h
/-- what denotes a plain thing is it -/
theorem den_flat {cs : Cs} {k : Nat} {x t : D} (h : den cs k x = some t) (hf : flat t = true) : x = t ∧ (∀ s, t = .str s → strOk s = true) := by
  cases x with
  | lst xs =>
    cases k with
    | zero => simp [den] at h
    | succ k =>
      simp only [den] at h
      split at h
      · cases e : densW (den cs k) xs with
        | none => rw [e] at h; cases h
        | some ys => rw [e] at h; cases h; cases hf
      · cases h
  | tup xs =>
    cases k with
    | zero => simp [den] at h
    | succ k =>
      simp only [den] at h
      split at h
      · cases e : densW (den cs k) xs with
        | none => rw [e] at h; cases h
        | some ys => rw [e] at h; cases h; cases hf
      · cases h
  | ref n =>
    cases k with
    | zero => simp [den] at h
    | succ k =>
      simp only [den] at h
      split at h
      · split at h
        · rename_i xs _ _
          cases e : densW (den cs k) xs with
          | none => rw [e] at h; cases h
          | some ys => rw [e] at h; cases h; cases hf
        · cases h
      · cases h
  | str s =>
    cases k <;> (simp only [den] at h; split at h <;> cases h; rename_i hs; exact ⟨rfl, fun s' e => by cases e; exact hs⟩)
  | dic _ _ => cases k <;> simp [den] at h
  | scr => cases k <;> simp [den] at h
  | clo _ _ _ => cases k <;> simp [den] at h
  | non => cases k <;> (simp only [den] at h; cases h; exact ⟨rfl, fun s e => by cases e⟩)
  | bl b => cases k <;> (simp only [den] at h; cases h; exact ⟨rfl, fun s e => by cases e⟩)
  | int b => cases k <;> (simp only [den] at h; cases h; exact ⟨rfl, fun s e => by cases e⟩)
theorem map_no {o : Option (List D)} {g : List D → D} {t : D} (h : o.map g = some t) : ∃ ys, t = g ys := by
  cases o with
  | none => cases h
  | some ys =>
    cases h
    exact ⟨ys, rfl⟩
def treeD : D → Prop
  | .dic _ _ => False
  | .ref _ => False
  | .scr => False
  | .clo _ _ _ => False
  | _ => True
theorem den_no {cs : Cs} {k : Nat} {x t : D} (h : den cs k x = some t) : treeD t := by
  cases x with
  | lst xs =>
    cases k with
    | zero => simp [den] at h
    | succ k =>
      simp only [den] at h
      split at h
      · obtain ⟨ys, e⟩ := map_no h
        rw [e]
        trivial
      · cases h
  | tup xs =>
    cases k with
    | zero => simp [den] at h
    | succ k =>
      simp only [den] at h
      split at h
      · obtain ⟨ys, e⟩ := map_no h
        rw [e]
        trivial
      · cases h
  | ref n =>
    cases k with
    | zero => simp [den] at h
    | succ k =>
      simp only [den] at h
      split at h
      · split at h
        · obtain ⟨ys, e⟩ := map_no h
          rw [e]
          trivial
        · cases h
      · cases h
  | str s =>
    cases k <;> (simp only [den] at h; split at h <;> cases h; trivial)
  | dic _ _ => cases k <;> simp [den] at h
  | scr => cases k <;> simp [den] at h
  | clo _ _ _ => cases k <;> simp [den] at h
  | non => cases k <;> (simp only [den] at h; cases h; trivial)
  | bl b => cases k <;> (simp only [den] at h; cases h; trivial)
  | int b => cases k <;> (simp only [den] at h; cases h; trivial)
theorem ok_sameR (k : Nat) (hk : k ≤ 64) : okFn 4 (c_same (spSR k)) (spSR (k + 1)) := by
  rintro ds cs Q X ⟨x, y, t, rfl, hx, hy, hQ⟩
  show wpS (c_same (spSR k)) [some x, some y, none, none] cs _
  unfold c_same
  simp only [wpS]
  have seqs : ∀ (k' : Nat) (xs ys ts : List D), k = k' + 1 → densW (den cs k') xs = some ts → densW (den cs k') ys = some ts → xs.length ≤ lim → ∀ (σ : Sl) (R : List D → Cs → Prop) (a b : Option D),
      R (List.replicate xs.length (.bl true)) cs → ∀ grd : Cs → Prop, grd cs → compL (.tup (.cons (.nm 2) (.cons (.nm 3) .nil))) grd [some x, some y, none, none] (fun σ1 c2 K => K (D.bl true) c2) (fun σ1 c2 K => wpE (.app (spSR k) (.cons (.v 2) (.cons (.v 3) .nil))) σ1 c2 K fun _ _ => False) R (zipD xs ys) [] cs := fun k' xs ys ts ek hx hy hl σ R a b hR grd hg => by
    have le : xs.length = ys.length := (densW_len hx).trans (densW_len hy).symm
    refine compL_map (fun _ => .bl true) hg _ _ (fun d hd => ?_) (by rw [zipD_len2 le]; simpa using hl) ?_
    · obtain ⟨a, b, u, e, h1, h2⟩ := densW_zip hx hy d hd
      subst e
      refine ⟨_, rfl, fun K h => h, fun K h => ?_⟩
      subst ek
      exact ⟨a, b, u, rfl, h1, h2, h⟩
    · rw [List.nil_append, map_const, zipD_len2 le]
      exact hR
  rw [c_same_2]
  cases t with
  | lst ts =>
    obtain ⟨k1, xs, ek, ax, lx, dx⟩ := den_lst hx
    obtain ⟨k2, ys, ek2, ay, ly, dy⟩ := den_lst hy
    have e12 : k1 = k2 := by omega
    subst e12
    have le : xs.length = ys.length := (densW_len dx).trans (densW_len dy).symm
    rcases ax with rfl | ⟨n, rfl, hn⟩ <;> rcases ay with rfl | ⟨m, rfl, hm⟩
    · simp [isN]
      rw [c_same_6]
      simp [isTy]
      rw [c_same_4]
      simp [isTy]
      rw [c_same_5]
      simp [iZip, le]
      refine seqs k1 xs ys ts ek dx dy lx [] _ none none ?_ _ (by simp [grdL])
      simp [asBools_true]
      exact hQ
    · simp [isN]
      rw [c_same_6]
      simp [isTy, hm]
      rw [c_same_4]
      simp [isTy, hm]
      rw [c_same_5]
      simp [iZip, le, hm]
      refine seqs k1 xs ys ts ek dx dy lx [] _ none none ?_ _ (by simp [grdL])
      simp [asBools_true]
      exact hQ
    · simp [isN]
      rw [c_same_6]
      simp [isTy, hn]
      rw [c_same_4]
      simp [isTy, hn]
      rw [c_same_5]
      simp [iZip, le, hn]
      refine seqs k1 xs ys ts ek dx dy lx [] _ none none ?_ _ (by simp [grdL])
      simp [asBools_true]
      exact hQ
    · simp [isN]
      rw [c_same_6]
      simp [isTy, hn, hm]
      rw [c_same_4]
      simp [isTy, hn, hm]
      rw [c_same_5]
      simp [iZip, le, hn, hm]
      refine seqs k1 xs ys ts ek dx dy lx [] _ none none ?_ _ (by simp [grdL])
      simp [asBools_true]
      exact hQ
  | tup ts =>
    obtain ⟨k1, xs, ek, rfl, lx, dx⟩ := den_tup hx
    obtain ⟨k2, ys, ek2, rfl, ly, dy⟩ := den_tup hy
    have e12 : k1 = k2 := by omega
    subst e12
    have le : xs.length = ys.length := (densW_len dx).trans (densW_len dy).symm
    simp [isN]
    rw [c_same_6]
    simp [isTy]
    rw [c_same_4]
    simp [isTy]
    rw [c_same_5]
    simp [iZip, le]
    refine seqs k1 xs ys ts ek dx dy lx [] _ none none ?_ _ trivial
    simp [asBools_true]
    exact hQ
  | non =>
    obtain ⟨rfl, _⟩ := den_flat hx rfl
    obtain ⟨rfl, _⟩ := den_flat hy rfl
    rw [c_same_1]
    simp [isN]
    exact hQ
  | int i =>
    obtain ⟨rfl, _⟩ := den_flat hx rfl
    obtain ⟨rfl, _⟩ := den_flat hy rfl
    simp [isN]
    rw [c_same_6]
    simp [isTy]
    rw [c_same_8]
    simp [isTy]
    rw [c_same_9]
    simp [isTy]
    exact hQ
  | bl i =>
    obtain ⟨rfl, _⟩ := den_flat hx rfl
    obtain ⟨rfl, _⟩ := den_flat hy rfl
    simp [isN]
    rw [c_same_6]
    simp [isTy]
    rw [c_same_8]
    simp [isTy]
    rw [c_same_9]
    simp [isTy]
    exact hQ
  | str i =>
    obtain ⟨rfl, hs⟩ := den_flat hx rfl
    obtain ⟨rfl, _⟩ := den_flat hy rfl
    simp [isN]
    rw [c_same_6]
    simp [isTy]
    rw [c_same_8]
    simp [isTy]
    rw [c_same_9]
    simp [isTy, sEq_e, deref, pur, eqD, hs i rfl]
    exact hQ
  | dic _ _ => exact (den_no hx).elim
  | ref _ => exact (den_no hx).elim
  | scr => exact (den_no hx).elim
  | clo _ _ _ => exact (den_no hx).elim
mutual
theorem den_pur {cs : Cs} : ∀ (k : Nat) (x : D), pur k x = true → den cs k x = some x
  | k, .non, _ => by cases k <;> rfl
  | k, .bl b, _ => by cases k <;> rfl
  | k, .int i, _ => by cases k <;> rfl
  | k, .str s, h => by
    have hs : strOk s = true := by cases k <;> exact h
    cases k <;> simp [den, hs]
  | 0, .lst _, h => by cases h
  | 0, .tup _, h => by cases h
  | k + 1, .lst xs, h => by
    simp only [den]
    rw [if_pos (pur_len h), densW_pur k xs (pur_in h)]
    rfl
  | k + 1, .tup xs, h => by
    simp only [den]
    rw [if_pos (pur_len h), densW_pur k xs (pur_in h)]
    rfl
  | k, .dic _ _, h => by cases k <;> cases h
  | k, .ref _, h => by cases k <;> cases h
  | k, .scr, h => by cases k <;> cases h
  | k, .clo _ _ _, h => by cases k <;> cases h
theorem densW_pur {cs : Cs} : ∀ (k : Nat) (xs : List D), purs k xs = true → densW (den cs k) xs = some xs
  | _, [], _ => rfl
  | k, x :: xs, h => by
    have h : (pur k x && purs k xs) = true := h
    rw [Bool.and_eq_true] at h
    unfold densW
    rw [den_pur k x h.1, densW_pur k xs h.2]
end
theorem spSR_e {k : Nat} {x y t : D} {cs : Cs} {Q : KD} {X : KX} (hx : den cs k x = some t) (hy : den cs k y = some t) (hQ : Q (.bl true) cs) : spSR (k + 1) [x, y] cs Q X := ⟨x, y, t, rfl, hx, hy, hQ⟩
theorem spSR_p {k : Nat} {x : D} {cs : Cs} {Q : KD} {X : KX} (hx : pur k x = true) (hQ : Q (.bl true) cs) : spSR (k + 1) [x, x] cs Q X := spSR_e (den_pur k x hx) (den_pur k x hx) hQ
theorem den_cell {cs : Cs} {k n : Nat} {xs : List D} (hc : cs n = some (.lst xs)) (h : purs k xs = true) (hl : xs.length ≤ lim) : den cs (k + 1) (.ref n) = some (.lst xs) := by
  simp only [den, hc]
  rw [if_pos hl, densW_pur k xs h]
  rfl
open PySem PySem.Spec L2 in
theorem fnOk_zeroR {P : Program} {w : World} {K : PySem.W.Frag} {mg : PySem.Str → Option Value} {base : Heap} {f : Addr} {fd : FuncData} {ps : List PySem.Str} : FnOk P w K mg base (L2N.CX P w) 0 f fd ps (lift K mg (spSR 0)) := fnOk_false
end G

/-! GFind: the laws' own finds; strange nodes. -/
namespace G
open PySem (Str)
@[simp] theorem sListOfM_e {x : D} {cs : Cs} {Q : KD} {X : KX} : sListOfM [x] cs Q X = match getQ x cs with
    | some xs => ∀ n, cs n = none → Q (.ref n) (put cs n (.lst xs))
    | none => False := rfl
end G

namespace G
end G

/-! GErr: finds that may raise. -/
namespace G
open PySem (Str)
theorem pur_int {k : Nat} {i : Int} : pur k (.int i) = true := by cases k <;> rfl
theorem pur_str {k : Nat} {s : Str} (h : strOk s = true) : pur k (.str s) = true := by cases k <;> exact h
end G

/-! GAll: find_all that may raise; its result's list changed by the caller. -/
namespace G
open PySem (Str)
section
open PySem PySem.Spec L2
variable {P : Program} {w : World} {K : PySem.W.Frag} {mg : Str → Option Value} {base : Heap} {k : Nat} {f : Addr} {fd : FuncData} {ps : List Str} {sp : Spec}
end
end G

/-! GHlp: small rules for the laws. -/
namespace G
open PySem (Str)
theorem cutLo_d {xs : List D} {i : Nat} {cs : Cs} {Q : KD} {X : KX} : sCutLo [.lst xs, .int (i : Nat)] cs Q X = Q (.lst (xs.drop i)) cs := by
  show Q (.lst (cutD xs (some (i : Nat)) none)) cs = _
  congr 2
  unfold cutD sIxAt
  simp
  rw [if_neg (by omega)]
  by_cases h : i ≤ xs.length
  · rw [List.take_of_length_le (by simp)]
    congr 1
    omega
  · rw [List.drop_eq_nil_of_le (as := xs) (i := i) (by omega)]
    rw [List.drop_eq_nil_of_le (by omega)]
    simp
end G

/-! GLcI: a comprehension over a list whose element may lean on what its maker's frame holds. -/
namespace G
open PySem PySem.Spec L2 PyProof.Rows
open Evl (Ex)
section
variable {X : Cx} {pins : List (Addr × Obj)} {σ : L2.St} {s : Shared} {H : Hp} {elt tg iter : Expr} {scope : Scope} {own : List (Str × Nat)} {pos : Pos} {g : TG} {te : TE} {D it : Addr} {fp : List Addr} {tn : Nat → Heap → Prop} {J : It} {Q : VK}
end
end G

/-! GAsks: [told(ask) for ask in asks]. -/
namespace G
open PySem PySem.Spec L2 PyProof.Rows
open Evl (Ex)
/-- an entry of a table of lambdas -/
structure LtE (X : Cx) (j : Nat) (t : LamT) (e : E) : Prop where
  n : LamN X.N X.env.scope t.scope
  b : LamBind t
  q : t.q = X.env.qual ++ "<lambda>"
  body : ∀ (A : Around) (outer : List Env) (s : Shared) (H : Hp) (EE : XK) (f c' : Addr), Ct (lamX X A outer s H EE t.scope f c') (wxOf EE) j → JE (lamX X A outer s H EE t.scope f c') (wxOf EE) t.body e
section
variable {X : Cx} {W : WX} {x y : Str} {i k j : Nat} {kf : Bool} {c1 c2 c3 : Value} {scope : Scope} {q1 q2 q3 : Pos}
end
end G

/-! GSortM: sorted(set(..)) as a cell. -/
namespace G
open PySem PySem.Spec L2
section
variable {X : Cx} {W : WX} {pos p p' q : Pos} {a : Expr} {ca : E}
end
end G

/-! GTop2: defs that hand over lists of lambdas. -/
namespace G
open PySem PySem.Spec L2 PyProof.Rows
section
variable {P : Program} {w : World} {K : PySem.W.Frag} {mg : Str → Option Value} {base : Heap} {x qual : Str} {params : Arguments} {body : List Stmt} {scope : Scope} {dvs : List V} {kws : List (Str × V)} {p : Str × Option Str} {fd : FuncData} {N ps : List Str} {k : Nat} {sp : Spec}
end
end G

/-! GDef: calls without arguments; calls that leave keyword-only defaults out. -/
namespace G
open PySem PySem.Spec L2 PyProof.Rows
section
variable {X : Cx} {W : WX} {pos p : Pos} {e : Expr} {es : List Expr} {ces : Es} {sp : Spec} {x : Str} {k n : Nat}
/-- a def whose keyword-only parameters are left out: its promise over the others -/
structure FnD (P : Program) (w : World) (K : PySem.W.Frag) (mg : Str → Option Value) (base : Heap) (x : Str) (k n : Nat) (sp : Spec) : Prop where
  ex : ∃ f fd ps spF dv vs ds, mg x = some (.ref f) ∧ FnOk P w K mg base (L2N.CX P w) k f fd ps (lift K mg spF) ∧ PySem.W.keepIn K (.ref f) = true ∧ Binds K fd ps ds ∧ Vals vs ds ∧ (∀ wd, RpL K wd dv vs) ∧ ∀ us cs Q PX, sp us cs Q PX → spF (us ++ dv) cs Q PX
end
section
variable {P : Program} {w : World} {K : PySem.W.Frag} {mg : Str → Option Value} {base : Heap} {x qual : Str} {params : Arguments} {body : List Stmt} {scope : Scope} {f : Addr} {fd : FuncData} {ps : List Str} {k n : Nat} {sp spF : Spec} {kws : List (Str × V)} {ks : List Str} {ix : List Nat}
end
end G

/-! GDict2: dict(pairs), dict(d), sorted(d), in, dict displays, equal dicts. -/
namespace G
open PySem PySem.Spec L2
open Evl (Ex)
theorem CallR.or {X : Cx} {f : Value} {r r' : List V → Hp → VK → Prop} (h : CallR X f r) (h' : CallR X f r') : CallR X f (fun xs H Q => r xs H Q ∨ r' xs H Q) := by
  intro pins s σ H xs us Q I rx q
  rcases q with q | q
  · exact h pins s σ H xs us Q I rx q
  · exact h' pins s σ H xs us Q I rx q
section
variable {X : Cx} {W : WX} {pos apos p : Pos} {o a e : Expr} {co ca ce : E}
end
section
variable {P : Program} {w : World} {K : PySem.W.Frag} {mg : Str → Option Value} {base : Heap} {x qual : Str} {params : Arguments} {body : List Stmt} {scope : Scope} {f : Addr} {fd : FuncData} {ps : List Str} {k n : Nat} {sp spF : Spec}
end
end G

/-! GObjT: instances without arguments; an attribute beside a name as targets; o.f += i; del d[k]; a, *b = a tuple; texts of the module. -/
namespace G
open PySem PySem.Spec L2
open Evl (Ex)
def sAugF (C : Nat) (f : Str) (j : Int) : Spec := fun ds cs Q _ => ∃ n fs i, ds = [.ref n] ∧ cs n = some (.ins C fs) ∧ fs.lookup f = some (.int i) ∧ fs.length < 1000 ∧ Q .non (put cs n (.ins C (setF f (.int (i + j)) fs)))
def dropA (l : DL) (k : Key) : DL := l.filter fun p => decide (p.1 ≠ k)
section
variable {X : Cx} {W : WX} {pos p p1 p2 q1 tp apos tpos : Pos} {e o i value : Expr} {co ci cv ce : E} {x y f : Str} {k n : Nat} {C : Addr} {sp : Spec}
theorem js_augF {j : Int} {kk : Nat} {p9 : Pos} (c : Cls X.K C) (n1 : NoAttr X.K C f) (ho : JE X W o co) : JS X W (.AugAssign (.Attribute o f tpos) .Add (.Constant (.int j) kk p9) pos) (.exp (.app (sAugF C f j) (.cons co .nil))) := by
  obtain ⟨to, p1, r1⟩ := ho
  refine ⟨_, ps_fldaug p1 pe_int in_add, fun wd F τ cs σ H P Q R rs h q => ?_⟩
  refine r1 wd F τ cs σ H _ _ _ R rs h (fun wd1 d1 c1 v1 H1 l1 R1 rv1 h1 => ?_) (q.xok rs)
  obtain ⟨n, fs, i, ed, hcn, hl, hlen, hP⟩ := h1
  simp only [List.cons.injEq, and_true] at ed
  subst ed
  obtain ⟨a, dx, gs, ea, hH, ir, put1⟩ := R1.insAt rv1 hcn
  obtain ⟨v, hv, rv⟩ := ir.get hl
  have ev : v = .int i := rv
  subst ev
  refine ⟨a, C, dx, gs, .int i, ea, hH, c, n1, hv, i, j, rfl, rfl, dx, gs, hH, by rw [ir.len]; exact hlen, ?_⟩
  exact q.nx wd1 τ _ σ _ l1 (put1 _ _ (ir.put (f := f) (d := .int (i + j)) rfl)) (rs.mono l1) hP
theorem DicR.drop {K : PySem.W.Frag} {wd : Wd} {l : DL} {kvs : List (Key × V)} {k : Key} (h : DicR K wd l kvs) : DicR K wd (dropA l k) (dropK kvs k) := by
  refine DicR.ind (M := fun l kvs => DicR K wd (dropA l k) (dropK kvs k)) DicR.nil ?_ h
  intro p l q kvs h1 h2 _ ih
  unfold dropA dropK at ih ⊢
  by_cases y : p.1 = k
  · rw [List.filter_cons_of_neg (by simpa using y), List.filter_cons_of_neg (by simpa using h1.symm.trans y)]
    exact ih
  · rw [List.filter_cons_of_pos (by simpa using y), List.filter_cons_of_pos (by simpa using fun z => y (h1.trans z))]
    exact DicR.cons h1 h2 ih
theorem j_gstr {x z : Str} (hg : Gl X x) (hm : ∃ t, X.mg x = some (.str z t)) (hd : (x == ("__debug__" : Str)) = false := by decide) : JE X W (.Name x pos) (.c (.str z)) := by
  obtain ⟨t, hm⟩ := hm
  exact j_glob (v := .str z) hg hm ⟨t, rfl⟩ (fun _ => rfl) hd
end
end G

/-! GRd: o.f -= 1; one sign not in a text; <= of texts; methods at a greater level. -/
namespace G
open PySem PySem.Spec L2
def sAugFS (C : Nat) (f : Str) (j : Int) : Spec := fun ds cs Q _ => ∃ n fs i, ds = [.ref n] ∧ cs n = some (.ins C fs) ∧ fs.lookup f = some (.int i) ∧ fs.length < 1000 ∧ Q .non (put cs n (.ins C (setF f (.int (i - j)) fs)))
def sNotInStr : Spec := fun ds cs Q _ => ∃ (c : Nat) (z : Str), ds = [.str ⟨#[c]⟩, .str z] ∧ Q (.bl (!decide (c ∈ z.cps.toList))) cs
section
variable {X : Cx} {W : WX} {pos p tpos : Pos} {o a b : Expr} {co ca cb : E} {f : Str} {C : Addr}
theorem js_augFS {j : Int} {kk : Nat} {p9 : Pos} (c : Cls X.K C) (n1 : NoAttr X.K C f) (ho : JE X W o co) : JS X W (.AugAssign (.Attribute o f tpos) .Sub (.Constant (.int j) kk p9) pos) (.exp (.app (sAugFS C f j) (.cons co .nil))) := by
  obtain ⟨to, p1, r1⟩ := ho
  refine ⟨_, ps_fldaug p1 pe_int in_sub, fun wd F τ cs σ H P Q R rs h q => ?_⟩
  refine r1 wd F τ cs σ H _ _ _ R rs h (fun wd1 d1 c1 v1 H1 l1 R1 rv1 h1 => ?_) (q.xok rs)
  obtain ⟨n, fs, i, ed, hcn, hl, hlen, hP⟩ := h1
  simp only [List.cons.injEq, and_true] at ed
  subst ed
  obtain ⟨a, dx, gs, ea, hH, ir, put1⟩ := R1.insAt rv1 hcn
  obtain ⟨v, hv, rv⟩ := ir.get hl
  have ev : v = .int i := rv
  subst ev
  refine ⟨a, C, dx, gs, .int i, ea, hH, c, n1, hv, i, j, rfl, rfl, dx, gs, hH, by rw [ir.len]; exact hlen, ?_⟩
  exact q.nx wd1 τ _ σ _ l1 (put1 _ _ (ir.put (f := f) (d := .int (i - j)) rfl)) (rs.mono l1) hP
theorem ref_notInStr {K : PySem.W.Frag} : Ref2 K (fun x y H Q => ∃ (c : Nat) (z : Str), x = .str ⟨#[c]⟩ ∧ y = .str z ∧ Q (.bl (!decide (c ∈ z.cps.toList))) H) sNotInStr := by
  intro wd F cs H x y v w P PX Q R rx ry hs q
  obtain ⟨c, z, ed, hP⟩ := hs
  simp only [List.cons.injEq, and_true] at ed
  obtain ⟨e1, e2⟩ := ed
  subst e1 e2
  exact ⟨c, z, rx, ry, q wd (.bl _) cs _ H (Wd.le.refl _) R rfl hP⟩
theorem jt_notInStr (ha : JE X W a ca) (hb : JE X W b cb) (hm : behindInMarks .NotIn b = false := by rfl) : JT X W (.Compare a [.NotIn] [b] pos) (.app sNotInStr (.cons ca (.cons cb .nil))) := jt_cmp op_notIn_sign ref_notInStr ha hb hm
end
theorem FnM.mono {P : Program} {w : World} {K : PySem.W.Frag} {mg : Str → Option Value} {base : Heap} {C : Addr} {m : Str} {k j n : Nat} {sp : Spec} (F : FnM P w K mg base C m k n sp) (h : k ≤ j) : FnM P w K mg base C m j n sp := by
  obtain ⟨f, fd, ps, e, c, me, ok, b⟩ := F.ex
  exact ⟨f, fd, ps, e, c, me, ok.mono h, b⟩
end G

/-! GFmt: f-strings of texts and whole numbers, of two parts or more. -/
namespace G
open PySem PySem.Spec L2
/-- {x} -/
def sFmt : Spec := fun ds cs Q _ => (∃ x : Str, ds = [.str x] ∧ x.length ≤ lim ∧ Q (.str x) cs) ∨ ∃ i : Int, ds = [.int i] ∧ i.natAbs.log2 < 1920 ∧ Q (.str (toString i)) cs
def sCat : Spec := fun ds cs Q _ => ∃ x y : Str, ds = [.str x, .str y] ∧ (x ++ y).length ≤ lim ∧ Q (.str (x ++ y)) cs
def sIdS : Spec := fun ds cs Q _ => ∃ x : Str, ds = [.str x] ∧ Q (.str x) cs
def catL : E → List E → E
  | c, [] => .meth chkS sIdS c .nil
  | c, b :: r => catL (.meth chkS sCat c (.cons b .nil)) r
section
variable {X : Cx} {W : WX} {pos : Pos} {e : Expr} {ce : E}
theorem j_fmt (he : JE X W e ce) : JE X W (.FormattedValue e (-1) none pos) (.app sFmt (.cons ce .nil)) := by
  obtain ⟨t, p, r⟩ := he
  refine ⟨_, pe_fmt p, fun wd F τ cs σ H P PX Q R rs h q x => ?_⟩
  refine r wd F τ cs σ H _ PX _ R rs h (fun wd1 d1 c1 v1 H1 l1 R1 rv1 h1 => ?_) x
  rcases h1 with ⟨y, ed, hl, hP⟩ | ⟨i, ed, hl, hP⟩
  · simp only [List.cons.injEq, and_true] at ed
    subst ed
    have ev : v1 = .str y := rv1
    subst ev
    exact .inl ⟨y, rfl, by rw [sizeL]; exact hl, q wd1 (.str y) c1 _ H1 l1 R1 rfl hP⟩
  · simp only [List.cons.injEq, and_true] at ed
    subst ed
    have ev : v1 = .int i := rv1
    subst ev
    exact .inr ⟨i, rfl, hl, q wd1 (.str (toString i)) c1 _ H1 l1 R1 rfl hP⟩
/-- the parts of an f-string -/
inductive JP (X : Cx) (W : WX) : List Expr → List TE → List E → Prop where
  | nil : JP X W [] [] []
  | cons {e : Expr} {t : TE} {c : E} {es : List Expr} {ts : List TE} {cs : List E} (h : PE X e t) (r : RefE X W t c) (k : JP X W es ts cs) : JP X W (e :: es) (t :: ts) (c :: cs)
def JPs (X : Cx) (W : WX) (es : List Expr) (cs : List E) : Prop := ∃ ts, JP X W es ts cs
theorem jp_nil : JPs X W [] [] := ⟨[], .nil⟩
theorem jp_cons {c : E} {es : List Expr} {cs : List E} (h : JE X W e c) (k : JPs X W es cs) : JPs X W (e :: es) (c :: cs) := by
  obtain ⟨t, p, r⟩ := h
  obtain ⟨ts, k⟩ := k
  exact ⟨_, .cons p r k⟩
theorem JP.pj {es : List Expr} {ts : List TE} {cs : List E} (h : JP X W es ts cs) : PJ X es ts := by
  induction h with
  | nil => exact .nil
  | cons h r k ih => exact .cons h ih
theorem ref_cat {es : List Expr} {ts : List TE} {bs : List E} (h : JP X W es ts bs) : ∀ (tc : TE) (c : E), RefE X W tc c → RefE X W (fun σ H Q => tc σ H fun v H1 => ∃ acc, v = .str acc ∧ tJs ts acc σ H1 fun out H2 => Q (.str out) H2) (catL c bs) := by
  induction h with
  | nil =>
    intro tc c hc wd F τ cs σ H P PX Q R rs h q x
    refine hc wd F τ cs σ H _ PX _ R rs h (fun wd1 d1 c1 v1 H1 l1 R1 rv1 h1 => ?_) x
    obtain ⟨⟨a, ed⟩, h1⟩ := h1
    subst ed
    have ev : v1 = .str a := rv1
    subst ev
    refine ⟨a, rfl, ?_⟩
    obtain ⟨y, ey, hP⟩ := h1
    simp only [List.cons.injEq, D.str.injEq, and_true] at ey
    subst ey
    exact q wd1 (.str a) c1 _ H1 l1 R1 rfl hP
  | @cons e t b es ts bs hp hr k ih =>
    intro tc c hc
    have h0 := ih (fun σ H Q => tc σ H fun v H1 => ∃ acc, v = .str acc ∧ t σ H1 fun x H2 => ∃ y : Str, x = .str y ∧ (acc ++ y).length ≤ sizeLine ∧ Q (.str (acc ++ y)) H2) (.meth chkS sCat c (.cons b .nil)) (by
      intro wd F τ cs σ H P PX Q R rs h q x
      refine hc wd F τ cs σ H _ PX _ R rs h (fun wd1 d1 c1 v1 H1 l1 R1 rv1 h1 => ?_) x
      obtain ⟨⟨a, ed⟩, h1⟩ := h1
      subst ed
      have ev : v1 = .str a := rv1
      subst ev
      refine ⟨a, rfl, ?_⟩
      refine hr wd1 F τ c1 σ H1 _ PX _ R1 (rs.mono l1) h1 (fun wd2 d2 c2 v2 H2 l2 R2 rv2 h2 => ?_) (x.mono l1)
      obtain ⟨x', y, ey, hl, hP⟩ := h2
      simp only [List.cons.injEq, D.str.injEq, and_true] at ey
      obtain ⟨e1, e2⟩ := ey
      subst e1 e2
      have ev : v2 = .str y := rv2
      subst ev
      exact ⟨y, rfl, by rw [sizeL]; exact hl, q wd2 (.str (a ++ y)) c2 _ H2 (l1.trans l2) R2 rfl hP⟩)
    have e0 : (fun (σ : St) (H : Hp) (Q : VK) => tc σ H fun v H1 => ∃ acc, v = V.str acc ∧ tJs (t :: ts) acc σ H1 fun out H2 => Q (.str out) H2) = (fun (σ : St) (H : Hp) (Q : VK) => tc σ H fun v H1 => ∃ acc, v = V.str acc ∧ t σ H1 fun x H2 => ∃ y : Str, x = .str y ∧ (acc ++ y).length ≤ sizeLine ∧ ∃ acc', V.str (acc ++ y) = V.str acc' ∧ tJs ts acc' σ H2 fun out H2 => Q (.str out) H2) := by
      funext σ H Q
      congr 1
      funext v H1
      congr 1
      funext acc
      congr 1
      show t σ H1 _ = _
      congr 1
      funext x H2
      congr 1
      funext y
      congr 1
      congr 1
      apply propext
      constructor
      · intro h
        exact ⟨_, rfl, h⟩
      · rintro ⟨acc', e, h⟩
        cases e
        exact h
    rw [e0]
    exact h0
theorem j_joined {v1 v2 : Expr} {rest : List Expr} {cs : List E} (h : JPs X W (v1 :: v2 :: rest) cs) : JE X W (.JoinedStr (v1 :: v2 :: rest) pos) (catL (.c (.str Str.empty)) cs) := by
  obtain ⟨ts, k⟩ := h
  refine ⟨_, pe_joined k.pj, ?_⟩
  have h0 := ref_cat k (fun σ H Q => Q (.str Str.empty) H) (.c (.str Str.empty)) (by
    intro wd F τ cs σ H P PX Q R rs h q x
    exact q wd (.str Str.empty) cs _ H (Wd.le.refl _) R rfl h)
  have e0 : (fun (σ : St) (H : Hp) (Q : VK) => tJs ts Str.empty σ H fun out H1 => Q (.str out) H1) = (fun (σ : St) (H : Hp) (Q : VK) => (fun (v : V) H1 => ∃ acc, v = V.str acc ∧ tJs ts acc σ H1 fun out H2 => Q (.str out) H2) (.str Str.empty) H) := by
    funext σ H Q
    apply propext
    constructor
    · intro h
      exact ⟨_, rfl, h⟩
    · rintro ⟨acc', e, h⟩
      cases e
      exact h
  rw [e0]
  exact h0
end
end G

namespace G
def c_format_step_1 (p_format_steps : G.Spec) : S := (.ret (.app sStrI (.cons (.v 0) .nil)))
def c_format_step_2 (p_format_steps : G.Spec) : S := (.ite (.app (sIsi .int) (.cons (.v 0) .nil)) (c_format_step_1 p_format_steps) .skip)
def c_format_step_3 (p_format_steps : G.Spec) : S := (.ret (catL (.c (.str PySem.Str.empty)) [(.app sFmt (.cons (.app sIx (.cons (.v 0) (.cons (.c (.int 1)) .nil))) .nil)), (.c (.str ">")), (.app sFmt (.cons (.app sIx (.cons (.v 0) (.cons (.c (.int 2)) .nil))) .nil))]))
def c_format_step_4 (p_format_steps : G.Spec) : S := (.ite (.app sEq (.cons (.app sIx (.cons (.v 0) (.cons (.c (.int 0)) .nil))) (.cons (.c (.str "link")) .nil))) (c_format_step_3 p_format_steps) .skip)
def c_format_step_5 (p_format_steps : G.Spec) : S := (.ret (catL (.c (.str PySem.Str.empty)) [(.app sFmt (.cons (.app sIx (.cons (.v 0) (.cons (.c (.int 1)) .nil))) .nil)), (.c (.str "*(")), (.app sFmt (.cons (.app p_format_steps (.cons (.app sIx (.cons (.v 0) (.cons (.c (.int 2)) .nil))) .nil)) .nil)), (.c (.str ")"))]))
def c_format_step (p_format_steps : G.Spec) : S := (.seq (c_format_step_2 p_format_steps) (.seq (c_format_step_4 p_format_steps) (c_format_step_5 p_format_steps)))
def c_format_steps_1 (p_format_step : G.Spec) : S := (.ret (.meth chkS sJoin (.c (.str " ")) (.cons (.comp false [1] (.nm 1) iSeq (.cons (.v 0) .nil) (.c (.bl true)) (.app p_format_step (.cons (.v 1) .nil))) .nil)))
def c_format_steps (p_format_step : G.Spec) : S := (c_format_steps_1 p_format_step)
def c_format_history_1 (p_check_history : G.Spec) (p_format_steps : G.Spec) : S := (.exp (.app p_check_history (.cons (.v 0) .nil)))
def c_format_history_2 (p_check_history : G.Spec) (p_format_steps : G.Spec) : S := (.ret (.app p_format_steps (.cons (.v 0) .nil)))
def c_format_history (p_check_history : G.Spec) (p_format_steps : G.Spec) : S := (.seq (c_format_history_1 p_check_history p_format_steps) (c_format_history_2 p_check_history p_format_steps))
def c_Reader___init___1 (cO : Nat) : S := (.exp (.app (sSetF3 cO "text" "at" "nesting") (.cons (.app sTup (.cons (.v 1) (.cons (.c (.int 0)) (.cons (.c (.int 0)) .nil)))) (.cons (.v 0) .nil))))
def c_Reader___init__ (cO : Nat) : S := (c_Reader___init___1 cO)
def c_Reader_ahead_1 (cO : Nat) : S := (.ret (.app sCutA (.cons (.app (sFld cO "text") (.cons (.v 0) .nil)) (.cons (.app sIntId (.cons (.app (sFld cO "at") (.cons (.v 0) .nil)) .nil)) (.cons (.app sAdd (.cons (.app (sFld cO "at") (.cons (.v 0) .nil)) (.cons (.c (.int 1)) .nil))) .nil)))))
def c_Reader_ahead (cO : Nat) : S := (c_Reader_ahead_1 cO)
def c_Reader_read_numberX_1 (cO : Nat) (p_Reader_ahead : G.Spec) (p_parse_number : G.Spec) : S := (.asg (.nm 1) (.app (sFld cO "at") (.cons (.v 0) .nil)))
def c_Reader_read_numberX_2 (cO : Nat) (p_Reader_ahead : G.Spec) (p_parse_number : G.Spec) : S := (.exp (.app (sAugF cO "at" 1) (.cons (.v 0) .nil)))
def c_Reader_read_numberX_3 (cO : Nat) (p_Reader_ahead : G.Spec) (p_parse_number : G.Spec) : S := (.whl (.and (.app sNe (.cons (.meth (chkI cO "ahead") p_Reader_ahead (.v 0) .nil) (.cons (.c (.str "")) .nil))) (.app sNotInStr (.cons (.meth (chkI cO "ahead") p_Reader_ahead (.v 0) .nil) (.cons (.c (.str " ()*>")) .nil)))) (c_Reader_read_numberX_2 cO p_Reader_ahead p_parse_number))
def c_Reader_read_numberX_4 (cO : Nat) (p_Reader_ahead : G.Spec) (p_parse_number : G.Spec) : S := (.asg (.nm 2) (.app p_parse_number (.cons (.app sCutA (.cons (.app (sFld cO "text") (.cons (.v 0) .nil)) (.cons (.app sIntId (.cons (.v 1) .nil)) (.cons (.app (sFld cO "at") (.cons (.v 0) .nil)) .nil)))) .nil)))
def c_Reader_read_numberX_5 (cO : Nat) (p_Reader_ahead : G.Spec) (p_parse_number : G.Spec) : S := (.rse (fun ds => er "ParseError" "pos" (ds.headD .non)) (.cons (.c (.int 0)) .nil))
def c_Reader_read_numberX_6 (cO : Nat) (p_Reader_ahead : G.Spec) (p_parse_number : G.Spec) : S := (.ite (.app sIsN (.cons (.v 2) (.cons (.c .non) .nil))) (c_Reader_read_numberX_5 cO p_Reader_ahead p_parse_number) .skip)
def c_Reader_read_numberX_7 (cO : Nat) (p_Reader_ahead : G.Spec) (p_parse_number : G.Spec) : S := (.ret (.v 2))
def c_Reader_read_numberX (cO : Nat) (p_Reader_ahead : G.Spec) (p_parse_number : G.Spec) : S := (.seq (c_Reader_read_numberX_1 cO p_Reader_ahead p_parse_number) (.seq (c_Reader_read_numberX_3 cO p_Reader_ahead p_parse_number) (.seq (c_Reader_read_numberX_4 cO p_Reader_ahead p_parse_number) (.seq (c_Reader_read_numberX_6 cO p_Reader_ahead p_parse_number) (c_Reader_read_numberX_7 cO p_Reader_ahead p_parse_number)))))
def c_Reader_expectX_1 (cO : Nat) (p_Reader_ahead : G.Spec) : S := (.rse (fun ds => er "ParseError" "pos" (ds.headD .non)) (.cons (.c (.int 0)) .nil))
def c_Reader_expectX_2 (cO : Nat) (p_Reader_ahead : G.Spec) : S := (.ite (.app sNe (.cons (.meth (chkI cO "ahead") p_Reader_ahead (.v 0) .nil) (.cons (.v 1) .nil))) (c_Reader_expectX_1 cO p_Reader_ahead) .skip)
def c_Reader_expectX_3 (cO : Nat) (p_Reader_ahead : G.Spec) : S := (.exp (.app (sAugF cO "at" 1) (.cons (.v 0) .nil)))
def c_Reader_expectX (cO : Nat) (p_Reader_ahead : G.Spec) : S := (.seq (c_Reader_expectX_2 cO p_Reader_ahead) (c_Reader_expectX_3 cO p_Reader_ahead))
def c_Reader_read_stepX_1 (cO : Nat) (p_Reader_ahead : G.Spec) (p_Reader_expect : G.Spec) (p_Reader_read_number : G.Spec) (p_Reader_read_steps__M : G.Spec) : S := (.asg (.nm 1) (.meth (chkI cO "read_number") p_Reader_read_number (.v 0) .nil))
def c_Reader_read_stepX_2 (cO : Nat) (p_Reader_ahead : G.Spec) (p_Reader_expect : G.Spec) (p_Reader_read_number : G.Spec) (p_Reader_read_steps__M : G.Spec) : S := (.exp (.meth (chkI cO "expect") p_Reader_expect (.v 0) (.cons (.c (.str ">")) .nil)))
def c_Reader_read_stepX_3 (cO : Nat) (p_Reader_ahead : G.Spec) (p_Reader_expect : G.Spec) (p_Reader_read_number : G.Spec) (p_Reader_read_steps__M : G.Spec) : S := (.ret (.app sTup (.cons (.c (.str "link")) (.cons (.v 1) (.cons (.meth (chkI cO "read_number") p_Reader_read_number (.v 0) .nil) .nil)))))
def c_Reader_read_stepX_4 (cO : Nat) (p_Reader_ahead : G.Spec) (p_Reader_expect : G.Spec) (p_Reader_read_number : G.Spec) (p_Reader_read_steps__M : G.Spec) : S := (.ite (.app sEq (.cons (.meth (chkI cO "ahead") p_Reader_ahead (.v 0) .nil) (.cons (.c (.str ">")) .nil))) (.seq (c_Reader_read_stepX_2 cO p_Reader_ahead p_Reader_expect p_Reader_read_number p_Reader_read_steps__M) (c_Reader_read_stepX_3 cO p_Reader_ahead p_Reader_expect p_Reader_read_number p_Reader_read_steps__M)) .skip)
def c_Reader_read_stepX_5 (cO : Nat) (p_Reader_ahead : G.Spec) (p_Reader_expect : G.Spec) (p_Reader_read_number : G.Spec) (p_Reader_read_steps__M : G.Spec) : S := (.ret (.v 1))
def c_Reader_read_stepX_6 (cO : Nat) (p_Reader_ahead : G.Spec) (p_Reader_expect : G.Spec) (p_Reader_read_number : G.Spec) (p_Reader_read_steps__M : G.Spec) : S := (.ite (.app sNe (.cons (.meth (chkI cO "ahead") p_Reader_ahead (.v 0) .nil) (.cons (.c (.str "*")) .nil))) (c_Reader_read_stepX_5 cO p_Reader_ahead p_Reader_expect p_Reader_read_number p_Reader_read_steps__M) .skip)
def c_Reader_read_stepX_7 (cO : Nat) (p_Reader_ahead : G.Spec) (p_Reader_expect : G.Spec) (p_Reader_read_number : G.Spec) (p_Reader_read_steps__M : G.Spec) : S := (.rse (fun ds => er "ParseError" "pos" (ds.headD .non)) (.cons (.c (.int 0)) .nil))
def c_Reader_read_stepX_8 (cO : Nat) (p_Reader_ahead : G.Spec) (p_Reader_expect : G.Spec) (p_Reader_read_number : G.Spec) (p_Reader_read_steps__M : G.Spec) : S := (.ite (.app sEq (.cons (.app (sFld cO "nesting") (.cons (.v 0) .nil)) (.cons (.c (.int 4)) .nil))) (c_Reader_read_stepX_7 cO p_Reader_ahead p_Reader_expect p_Reader_read_number p_Reader_read_steps__M) .skip)
def c_Reader_read_stepX_9 (cO : Nat) (p_Reader_ahead : G.Spec) (p_Reader_expect : G.Spec) (p_Reader_read_number : G.Spec) (p_Reader_read_steps__M : G.Spec) : S := (.exp (.app (sAugF cO "nesting" 1) (.cons (.v 0) .nil)))
def c_Reader_read_stepX_10 (cO : Nat) (p_Reader_ahead : G.Spec) (p_Reader_expect : G.Spec) (p_Reader_read_number : G.Spec) (p_Reader_read_steps__M : G.Spec) : S := (.exp (.meth (chkI cO "expect") p_Reader_expect (.v 0) (.cons (.c (.str "*")) .nil)))
def c_Reader_read_stepX_11 (cO : Nat) (p_Reader_ahead : G.Spec) (p_Reader_expect : G.Spec) (p_Reader_read_number : G.Spec) (p_Reader_read_steps__M : G.Spec) : S := (.exp (.meth (chkI cO "expect") p_Reader_expect (.v 0) (.cons (.c (.str "(")) .nil)))
def c_Reader_read_stepX_12 (cO : Nat) (p_Reader_ahead : G.Spec) (p_Reader_expect : G.Spec) (p_Reader_read_number : G.Spec) (p_Reader_read_steps__M : G.Spec) : S := (.asg (.nm 2) (.meth (chkI cO "read_steps") p_Reader_read_steps__M (.v 0) .nil))
def c_Reader_read_stepX_13 (cO : Nat) (p_Reader_ahead : G.Spec) (p_Reader_expect : G.Spec) (p_Reader_read_number : G.Spec) (p_Reader_read_steps__M : G.Spec) : S := (.exp (.meth (chkI cO "expect") p_Reader_expect (.v 0) (.cons (.c (.str ")")) .nil)))
def c_Reader_read_stepX_14 (cO : Nat) (p_Reader_ahead : G.Spec) (p_Reader_expect : G.Spec) (p_Reader_read_number : G.Spec) (p_Reader_read_steps__M : G.Spec) : S := (.exp (.app (sAugFS cO "nesting" 1) (.cons (.v 0) .nil)))
def c_Reader_read_stepX_15 (cO : Nat) (p_Reader_ahead : G.Spec) (p_Reader_expect : G.Spec) (p_Reader_read_number : G.Spec) (p_Reader_read_steps__M : G.Spec) : S := (.ret (.app sTup (.cons (.c (.str "repeat")) (.cons (.v 1) (.cons (.app sTupOf (.cons (.v 2) .nil)) .nil)))))
def c_Reader_read_stepX (cO : Nat) (p_Reader_ahead : G.Spec) (p_Reader_expect : G.Spec) (p_Reader_read_number : G.Spec) (p_Reader_read_steps__M : G.Spec) : S := (.seq (c_Reader_read_stepX_1 cO p_Reader_ahead p_Reader_expect p_Reader_read_number p_Reader_read_steps__M) (.seq (c_Reader_read_stepX_4 cO p_Reader_ahead p_Reader_expect p_Reader_read_number p_Reader_read_steps__M) (.seq (c_Reader_read_stepX_6 cO p_Reader_ahead p_Reader_expect p_Reader_read_number p_Reader_read_steps__M) (.seq (c_Reader_read_stepX_8 cO p_Reader_ahead p_Reader_expect p_Reader_read_number p_Reader_read_steps__M) (.seq (c_Reader_read_stepX_9 cO p_Reader_ahead p_Reader_expect p_Reader_read_number p_Reader_read_steps__M) (.seq (c_Reader_read_stepX_10 cO p_Reader_ahead p_Reader_expect p_Reader_read_number p_Reader_read_steps__M) (.seq (c_Reader_read_stepX_11 cO p_Reader_ahead p_Reader_expect p_Reader_read_number p_Reader_read_steps__M) (.seq (c_Reader_read_stepX_12 cO p_Reader_ahead p_Reader_expect p_Reader_read_number p_Reader_read_steps__M) (.seq (c_Reader_read_stepX_13 cO p_Reader_ahead p_Reader_expect p_Reader_read_number p_Reader_read_steps__M) (.seq (c_Reader_read_stepX_14 cO p_Reader_ahead p_Reader_expect p_Reader_read_number p_Reader_read_steps__M) (c_Reader_read_stepX_15 cO p_Reader_ahead p_Reader_expect p_Reader_read_number p_Reader_read_steps__M)))))))))))
def cM_Reader_read_steps_1 (cO : Nat) (p_Reader_ahead : G.Spec) (p_Reader_expect : G.Spec) (p_Reader_read_step : G.Spec) : S := (.asg (.nm 1) (.app sListM .nil))
def cM_Reader_read_steps_2 (cO : Nat) (p_Reader_ahead : G.Spec) (p_Reader_expect : G.Spec) (p_Reader_read_step : G.Spec) : S := (.ret (.v 1))
def cM_Reader_read_steps_3 (cO : Nat) (p_Reader_ahead : G.Spec) (p_Reader_expect : G.Spec) (p_Reader_read_step : G.Spec) : S := (.ite (.app sIn (.cons (.meth (chkI cO "ahead") p_Reader_ahead (.v 0) .nil) (.cons (.app sTup (.cons (.c (.str "")) (.cons (.c (.str ")")) .nil))) .nil))) (cM_Reader_read_steps_2 cO p_Reader_ahead p_Reader_expect p_Reader_read_step) .skip)
def cM_Reader_read_steps_4 (cO : Nat) (p_Reader_ahead : G.Spec) (p_Reader_expect : G.Spec) (p_Reader_read_step : G.Spec) : S := (.exp (.meth chkL sAppend (.v 1) (.cons (.meth (chkI cO "read_step") p_Reader_read_step (.v 0) .nil) .nil)))
def cM_Reader_read_steps_5 (cO : Nat) (p_Reader_ahead : G.Spec) (p_Reader_expect : G.Spec) (p_Reader_read_step : G.Spec) : S := (.exp (.meth (chkI cO "expect") p_Reader_expect (.v 0) (.cons (.c (.str " ")) .nil)))
def cM_Reader_read_steps_6 (cO : Nat) (p_Reader_ahead : G.Spec) (p_Reader_expect : G.Spec) (p_Reader_read_step : G.Spec) : S := (.exp (.meth chkL sAppend (.v 1) (.cons (.meth (chkI cO "read_step") p_Reader_read_step (.v 0) .nil) .nil)))
def cM_Reader_read_steps_7 (cO : Nat) (p_Reader_ahead : G.Spec) (p_Reader_expect : G.Spec) (p_Reader_read_step : G.Spec) : S := (.whl (.app sEq (.cons (.meth (chkI cO "ahead") p_Reader_ahead (.v 0) .nil) (.cons (.c (.str " ")) .nil))) (.seq (cM_Reader_read_steps_5 cO p_Reader_ahead p_Reader_expect p_Reader_read_step) (cM_Reader_read_steps_6 cO p_Reader_ahead p_Reader_expect p_Reader_read_step)))
def cM_Reader_read_steps_8 (cO : Nat) (p_Reader_ahead : G.Spec) (p_Reader_expect : G.Spec) (p_Reader_read_step : G.Spec) : S := (.ret (.v 1))
def cM_Reader_read_steps (cO : Nat) (p_Reader_ahead : G.Spec) (p_Reader_expect : G.Spec) (p_Reader_read_step : G.Spec) : S := (.seq (cM_Reader_read_steps_1 cO p_Reader_ahead p_Reader_expect p_Reader_read_step) (.seq (cM_Reader_read_steps_3 cO p_Reader_ahead p_Reader_expect p_Reader_read_step) (.seq (cM_Reader_read_steps_4 cO p_Reader_ahead p_Reader_expect p_Reader_read_step) (.seq (cM_Reader_read_steps_7 cO p_Reader_ahead p_Reader_expect p_Reader_read_step) (cM_Reader_read_steps_8 cO p_Reader_ahead p_Reader_expect p_Reader_read_step)))))
end G

namespace G
def c_check_tupleX_1 : S := (.rse (fun ds => er "BadStep" "pos" (ds.headD .non)) (.cons (.v 2) .nil))
def c_check_tupleX_2 : S := (.ite (.or (.app sNe (.cons (.app sLen (.cons (.v 0) .nil)) (.cons (.c (.int 3)) .nil))) (.app sNotIn (.cons (.app sIx (.cons (.v 0) (.cons (.c (.int 0)) .nil))) (.cons (.app sTup (.cons (.c (.str "link")) (.cons (.c (.str "repeat")) .nil))) .nil)))) (c_check_tupleX_1) .skip)
def c_check_tupleX_3 : S := (.rse (fun ds => er "BadStep" "pos" (ds.headD .non)) (.cons (.v 2) .nil))
def c_check_tupleX_4 : S := (.ite (.and (.app sEq (.cons (.app sIx (.cons (.v 0) (.cons (.c (.int 0)) .nil))) (.cons (.c (.str "link")) .nil))) (.or (.app sGt (.cons (.v 1) (.cons (.c (.int 0)) .nil))) (.app sNot (.cons (.app (sIsi .int) (.cons (.app sIx (.cons (.v 0) (.cons (.c (.int 2)) .nil))) .nil)) .nil)))) (c_check_tupleX_3) .skip)
def c_check_tupleX_5 : S := (.rse (fun ds => er "BadStep" "pos" (ds.headD .non)) (.cons (.v 2) .nil))
def c_check_tupleX_6 : S := (.ite (.and (.app sEq (.cons (.app sIx (.cons (.v 0) (.cons (.c (.int 0)) .nil))) (.cons (.c (.str "repeat")) .nil))) (.or (.app (sIsi .int) (.cons (.app sIx (.cons (.v 0) (.cons (.c (.int 2)) .nil))) .nil)) (.or (.app sEq (.cons (.v 1) (.cons (.c (.int 4)) .nil))) (.app sNot (.cons (.chain sLe sLe (.c (.int 0)) (.app sIx (.cons (.v 0) (.cons (.c (.int 1)) .nil))) (.c (.int 1000000000000000000000000000000))) .nil))))) (c_check_tupleX_5) .skip)
def c_check_tupleX : S := (.seq (c_check_tupleX_2) (.seq (c_check_tupleX_4) (c_check_tupleX_6)))
def c_check_stepsX_1 (p_check_steps : G.Spec) (p_check_tuple : G.Spec) : S := (.rse (fun ds => er "TooLong" "limit" (ds.headD .non)) (.cons (.c (.int 100)) .nil))
def c_check_stepsX_2 (p_check_steps : G.Spec) (p_check_tuple : G.Spec) : S := (.ite (.app sEq (.cons (.v 2) (.cons (.c (.int 100)) .nil))) (c_check_stepsX_1 p_check_steps p_check_tuple) .skip)
def c_check_stepsX_3 (p_check_steps : G.Spec) (p_check_tuple : G.Spec) : S := (.asg (.nm 2) (.app sIAdd (.cons (.v 2) (.cons (.c (.int 1)) .nil))))
def c_check_stepsX_4 (p_check_steps : G.Spec) (p_check_tuple : G.Spec) : S := (.exp (.app p_check_tuple (.cons (.v 3) (.cons (.v 1) (.cons (.app sSub (.cons (.v 2) (.cons (.c (.int 1)) .nil))) .nil)))))
def c_check_stepsX_5 (p_check_steps : G.Spec) (p_check_tuple : G.Spec) : S := (.asg (.nm 2) (.app p_check_steps (.cons (.app sIx (.cons (.v 3) (.cons (.c (.int 2)) .nil))) (.cons (.app sAdd (.cons (.v 1) (.cons (.c (.int 1)) .nil))) (.cons (.v 2) .nil)))))
def c_check_stepsX_6 (p_check_steps : G.Spec) (p_check_tuple : G.Spec) : S := (.ite (.app sEq (.cons (.app sIx (.cons (.v 3) (.cons (.c (.int 0)) .nil))) (.cons (.c (.str "repeat")) .nil))) (c_check_stepsX_5 p_check_steps p_check_tuple) .skip)
def c_check_stepsX_7 (p_check_steps : G.Spec) (p_check_tuple : G.Spec) : S := (.ite (.app sNot (.cons (.app (sIsi .int) (.cons (.v 3) .nil)) .nil)) (.seq (c_check_stepsX_4 p_check_steps p_check_tuple) (c_check_stepsX_6 p_check_steps p_check_tuple)) .skip)
def c_check_stepsX_8 (p_check_steps : G.Spec) (p_check_tuple : G.Spec) : S := (.fr (.nm 3) iSeq (.cons (.v 0) .nil) (.seq (c_check_stepsX_2 p_check_steps p_check_tuple) (.seq (c_check_stepsX_3 p_check_steps p_check_tuple) (c_check_stepsX_7 p_check_steps p_check_tuple))))
def c_check_stepsX_9 (p_check_steps : G.Spec) (p_check_tuple : G.Spec) : S := (.ret (.v 2))
def c_check_stepsX (p_check_steps : G.Spec) (p_check_tuple : G.Spec) : S := (.seq (c_check_stepsX_8 p_check_steps p_check_tuple) (c_check_stepsX_9 p_check_steps p_check_tuple))
def c_check_history_1 (p_check_steps : G.Spec) : S := (.exp (.app p_check_steps (.cons (.v 0) (.cons (.c (.int 0)) (.cons (.c (.int 0)) .nil)))))
def c_check_history (p_check_steps : G.Spec) : S := (c_check_history_1 p_check_steps)
def c_l_step_1 (p__law_of : G.Spec) (p__law_step : G.Spec) (p__law_take : G.Spec) : S := (.ret (.app p__law_take (.cons (.v 0) (.cons (.v 1) .nil))))
def c_l_step_2 (p__law_of : G.Spec) (p__law_step : G.Spec) (p__law_take : G.Spec) : S := (.ite (.or (.app sEq (.cons (.v 2) (.cons (.c (.int 0)) .nil))) (.app sGt (.cons (.app p__law_take (.cons (.v 0) (.cons (.c (.int 3)) .nil))) (.cons (.c (.int 0)) .nil)))) (c_l_step_1 p__law_of p__law_step p__law_take) .skip)
def c_l_step_3 (p__law_of : G.Spec) (p__law_step : G.Spec) (p__law_take : G.Spec) : S := (.asg (.nm 3) (.app p__law_of (.cons (.v 0) (.cons (.app sList (.cons (.c (.int 0)) (.cons (.c (.int 1)) (.cons (.c (.int 2)) (.cons (.c (.int 3)) (.cons (.app p__law_take (.cons (.v 0) (.cons (.c (.int 9)) .nil))) (.cons (.app sPow (.cons (.c (.int 10)) (.cons (.c (.int 30)) .nil))) (.cons (.app p__law_take (.cons (.v 0) (.cons (.app sPow (.cons (.c (.int 10)) (.cons (.c (.int 30)) .nil))) .nil))) .nil)))))))) .nil))))
def c_l_step_4 (p__law_of : G.Spec) (p__law_step : G.Spec) (p__law_take : G.Spec) : S := (.asg (.nm 4) (.comp false [5] (.nm 5) iRng1 (.cons (.app p__law_take (.cons (.v 0) (.cons (.c (.int 4)) .nil))) .nil) (.c (.bl true)) (.app p__law_step (.cons (.v 0) (.cons (.v 1) (.cons (.app sSub (.cons (.v 2) (.cons (.c (.int 1)) .nil))) .nil))))))
def c_l_step_5 (p__law_of : G.Spec) (p__law_step : G.Spec) (p__law_take : G.Spec) : S := (.ret (.app sTup (.cons (.c (.str "repeat")) (.cons (.v 3) (.cons (.app p__law_of (.cons (.v 0) (.cons (.app sList (.cons (.app sTupOf (.cons (.v 4) .nil)) (.cons (.v 4) .nil))) .nil))) .nil)))))
def c_l_step (p__law_of : G.Spec) (p__law_step : G.Spec) (p__law_take : G.Spec) : S := (.seq (c_l_step_2 p__law_of p__law_step p__law_take) (.seq (c_l_step_3 p__law_of p__law_step p__law_take) (.seq (c_l_step_4 p__law_of p__law_step p__law_take) (c_l_step_5 p__law_of p__law_step p__law_take))))
def c_l_rounds_1 (p__law_step : G.Spec) (p__law_take : G.Spec) : S := (.ret (.comp false [4] (.nm 4) iRng1 (.cons (.app p__law_take (.cons (.v 0) (.cons (.app sAdd (.cons (.v 2) (.cons (.c (.int 1)) .nil))) .nil))) .nil) (.c (.bl true)) (.app p__law_step (.cons (.v 0) (.cons (.v 1) (.cons (.v 3) .nil))))))
def c_l_rounds (p__law_step : G.Spec) (p__law_take : G.Spec) : S := (c_l_rounds_1 p__law_step p__law_take)
def c_l_written_1 (p__law_written : G.Spec) : S := (.asg (.nm 1) (.c (.int 0)))
def c_l_written_2 (p__law_written : G.Spec) : S := (.asg (.nm 1) (.app sAdd (.cons (.v 1) (.cons (.c (.int 1)) .nil))))
def c_l_written_3 (p__law_written : G.Spec) : S := (.asg (.nm 1) (.app sAdd (.cons (.v 1) (.cons (.app p__law_written (.cons (.app sIx (.cons (.v 2) (.cons (.c (.int 2)) .nil))) .nil)) .nil))))
def c_l_written_4 (p__law_written : G.Spec) : S := (.ite (.and (.app sNot (.cons (.app (sIsi .int) (.cons (.v 2) .nil)) .nil)) (.app sEq (.cons (.app sIx (.cons (.v 2) (.cons (.c (.int 0)) .nil))) (.cons (.c (.str "repeat")) .nil)))) (c_l_written_3 p__law_written) .skip)
def c_l_written_5 (p__law_written : G.Spec) : S := (.fr (.nm 2) iSeq (.cons (.v 0) .nil) (.seq (c_l_written_2 p__law_written) (c_l_written_4 p__law_written)))
def c_l_written_6 (p__law_written : G.Spec) : S := (.ret (.v 1))
def c_l_written (p__law_written : G.Spec) : S := (.seq (c_l_written_1 p__law_written) (.seq (c_l_written_5 p__law_written) (c_l_written_6 p__law_written)))
def c_l_plain_1 (p__law_plain : G.Spec) : S := (.asg (.nm 1) (.app sListM .nil))
def c_l_plain_2 (p__law_plain : G.Spec) : S := (.asg (.nm 3) (.or (.app (sIsi .int) (.cons (.v 2) .nil)) (.app sEq (.cons (.app sIx (.cons (.v 2) (.cons (.c (.int 0)) .nil))) (.cons (.c (.str "link")) .nil)))))
def c_l_plain_3 (p__law_plain : G.Spec) : S := (.exp (.meth chkL sAppend (.v 1) (.cons (.ite (.v 3) (.v 2) (.app sTup (.cons (.c (.str "repeat")) (.cons (.app sIx (.cons (.v 2) (.cons (.c (.int 1)) .nil))) (.cons (.app sTupOf (.cons (.app p__law_plain (.cons (.app sIx (.cons (.v 2) (.cons (.c (.int 2)) .nil))) .nil)) .nil)) .nil))))) .nil)))
def c_l_plain_4 (p__law_plain : G.Spec) : S := (.fr (.nm 2) iSeq (.cons (.v 0) .nil) (.seq (c_l_plain_2 p__law_plain) (c_l_plain_3 p__law_plain)))
def c_l_plain_5 (p__law_plain : G.Spec) : S := (.ret (.v 1))
def c_l_plain (p__law_plain : G.Spec) : S := (.seq (c_l_plain_1 p__law_plain) (.seq (c_l_plain_4 p__law_plain) (.seq (.frz 1) (c_l_plain_5 p__law_plain))))
end G

/-! GDCompS: name = {k: v for ..} on one line, the name a local. -/
namespace G
open PySem PySem.Spec L2
section
variable {X : Cx}
end
end G

/-! GDComp: dict comprehensions. -/
namespace G
open PySem PySem.Spec L2
open Evl (Ex)
section
variable {X : Cx} {W : WX} {pos : Pos} {cc ck cv : E}
end
end G

/-! GMaxV: max(d.values(), default=i). -/
namespace L2
open PySem PySem.Spec PyProof.Rows
section
variable {X : Cx} {o : Expr} {p pos apos mpos cpos kpos : Pos} {td : TE} {i : Int} {jk : Nat}
end
end L2
namespace G
open PySem PySem.Spec L2
open Evl (Ex)
section
variable {X : Cx} {W : WX} {o a b : Expr} {p pos apos mpos cpos kpos : Pos} {co ca cb : E} {i : Int} {jk : Nat}
end
end G

/-! GRing: following parents in any table of parents; rings. -/
namespace G
def ldB (q : List Nat) : Nat → Nat → Bool
  | 0, _ => false
  | n + 1, i => if par q i = i then true else ldB q n (par q i)
end G

/-! GIsF: is_forest. -/
namespace G
def iDs (xs : List Int) : List D := xs.map D.int
def nats (xs : List Int) : List Nat := xs.map Int.toNat
def rings (xs : List Int) : List Nat := (List.range xs.length).filter fun i => !ldB (nats xs) xs.length i
/-! ### forests as numbers -/
def rk (q : List Nat) : Nat → Nat → Nat
  | 0, _ => 0
  | n + 1, i => if par q i = i then 0 else rk q n (par q i) + 1
/-! ### all rows -/
end G

/-! GTbl: written dicts with text keys: whole numbers, defs; a def out of such a dict called. -/
namespace G
open PySem PySem.Spec L2 PyProof.Rows
def entV (r : Option Value) : Option (Sum Int Addr) → Prop
  | none => r = none
  | some (.inl i) => ∃ t, r = some (.int i t)
  | some (.inr a) => r = some (.ref a)
structure Tbl (K : PySem.W.Frag) (w : World) (d : Addr) (kvs : List (Str × Sum Int Addr)) : Prop where
  ex : ∃ es n, KDict K w d es n
  at_ : ∀ z, ∃ r, PySem.W.nsIn K d z = some r ∧ entV r (kvs.lookup z)
/-! ### the core's -/
section
variable {X : Cx} {W : WX} {pos p p1 p2 p3 p4 p5 apos cpos : Pos} {e f : Expr} {es : List Expr} {ce cf : E} {ces : Es} {T hn : Str} {d : Addr} {kvs : List (Str × Sum Int Addr)} {k : Nat}
/-! ### a def out of a table -/
structure FnAt (P : Program) (w : World) (K : PySem.W.Frag) (mg : Str → Option Value) (base : Heap) (k : Nat) (f : Addr) (sp : Sp) : Prop where
  ex : ∃ fd ps, FnOk P w K mg base (L2N.CX P w) k f fd ps sp ∧ PySem.W.keepIn K (.ref f) = true ∧ Binds K fd ps []
theorem Fn.at_ {P : Program} {w : World} {K : PySem.W.Frag} {mg : Str → Option Value} {base : Heap} {x : Str} {n j : Nat} {sp : Spec} {f : Addr} (F : Fn P w K mg base x j n sp) (h : j ≤ k) (hm : mg x = some (.ref f)) : FnAt P w K mg base k f (lift K mg sp) := by
  obtain ⟨f', fd, ps, _, hm', ok, kp, b⟩ := F.ex
  rw [hm] at hm'
  cases hm'
  exact ⟨fd, ps, ok.mono h, kp, b⟩
structure Dsp (P : Program) (w : World) (K : PySem.W.Frag) (mg : Str → Option Value) (base : Heap) (k : Nat) (kvs : List (Str × Sum Int Addr)) (tbl : List (Str × Spec)) : Prop where
  at_ : ∀ z sp, tbl.lookup z = some sp → ∃ f, kvs.lookup z = some (.inr f) ∧ FnAt P w K mg base k f (lift K mg sp)
theorem Dsp.nil {P : Program} {w : World} {K : PySem.W.Frag} {mg : Str → Option Value} {base : Heap} : Dsp P w K mg base k [] [] := ⟨fun z sp h => by cases h⟩
theorem Dsp.cons {P : Program} {w : World} {K : PySem.W.Frag} {mg : Str → Option Value} {base : Heap} {tbl : List (Str × Spec)} {sp : Spec} {g : Addr} {z : Str} (h : FnAt P w K mg base k g (lift K mg sp)) (r : Dsp P w K mg base k kvs tbl) : Dsp P w K mg base k ((z, .inr g) :: kvs) ((z, sp) :: tbl) := by
  refine ⟨fun y sp' e => ?_⟩
  rw [List.lookup_cons] at e ⊢
  by_cases q : y = z
  · subst q
    rw [beq_self_eq_true] at e ⊢
    cases e
    exact ⟨g, rfl, h⟩
  · rw [beq_false_of_ne q] at e ⊢
    exact r.at_ y sp' e
theorem RS.clr {K : PySem.W.Frag} {wd : Wd} {τ : Sl} {σ : L2.St} (h : RS K wd τ σ) (i : Nat) : RS K wd (τ.set i none) σ := h.drop (by simp) fun j d e => by
  rw [getV_eq] at e ⊢
  by_cases hj : i = j
  · subst hj
    by_cases hl : i < τ.length
    · rw [List.getElem?_set_self hl] at e
      cases e
    · rw [List.getElem?_eq_none (by simp; omega)] at e
      cases e
  · rwa [List.getElem?_set_ne hj] at e
section
variable {ta : TA} {tbl : List (Str × Spec)} {i : Nat} {a0 : Expr} {as : List Expr}
end
end
end G

/-! GDin: x in d for dicts as cells. -/
namespace L2
open PySem PySem.Spec PyProof.Rows
end L2
namespace G
open PySem PySem.Spec L2
section
variable {X : Cx} {W : WX} {pos : Pos} {o a : Expr} {co ca : E}
end
end G

/-! GComp2: comprehensions of two clauses. -/
namespace G
open PySem PySem.Spec L2
open Evl (Ex)
section
variable {X : Cx} {W : WX} {pos : Pos} {ce : E}
end
end G

/-! GDT: dicts with tuples as keys; the items of a frozen dict. -/
namespace L2
open PySem PySem.Spec PyProof.Rows
section
variable {X : Cx} {pins : List (Addr × Obj)} {σ : St} {H : Hp} {s : Shared} {d : Addr} {o : Obj}
end
section
variable {P : Program} {w : World} {K : PySem.W.Frag} {d : Addr} {o : Obj} {es : Array DictEntry} {ep : Nat}
end
section
variable {X : Cx} {e : Expr} {td : TE} {apos cpos : Pos}
end
end L2
namespace G
open PySem PySem.Spec L2
open Evl (Ex)
/-! ### the items of a frozen dict -/
section
variable {X : Cx} {W : WX} {e : Expr} {ce : E} {apos cpos : Pos} {elts : List Expr} {kk : Nat} {tpos : Pos}
end
end G

/-! GSeal: dicts that nobody changes any more, as trees. -/
namespace G
open PySem PySem.Spec L2
open Evl (Ex)
/-- a sealed dict -/
def sdD (l : DL) : D := .dic (.non :: l.map fun p => kD p.1) (l.map (·.2))
section
variable {K : PySem.W.Frag} {wd : Wd} {F H : Hp} {cs : Cs}
end
section
variable {X : Cx} {W : WX} {sts : List Stmt} {s : S}
end
/-! ### operations -/
section
variable {X : Cx} {W : WX} {pos apos cpos p : Pos} {o i e f value : Expr} {co ci ce cf cv : E}
theorem DGet.s {H : Hp} {a : Addr} {o : Obj} {kvs : List (Key × V)} {k : Key} (e : H a = some (.frz o (.dK kvs))) : DGet H a (kV k) (valV kvs k) := .inl ⟨kvs, k, .inr ⟨o, e⟩, rfl, rfl⟩
end
section
variable {X : Cx} {W : WX} {apos cpos tpos : Pos} {e tg : Expr} {ce : E} {elts : List Expr} {kk : Nat}
end
end G

/-! GStarT: a, *b, c = a tuple. -/
namespace G
open PySem PySem.Spec L2
open Evl (Ex)
section
variable {P : Program} {w : World} {A : Around} {E : Value → Shared → Prop} {s : Shared}
end
section
variable {X : Cx} {W : WX} {pos p p' : Pos} {e tg : Expr} {ce : E} {tgs elts : List Expr} {pt : Pat} {own : List Nat} {n i k : Nat}
end
end G

/-! GEqN: xs == [], whatever the list holds. -/
namespace G
open PySem PySem.Spec L2
section
variable {X : Cx} {W : WX} {pos : Pos} {a b : Expr} {ca cb : E}
end
end G

/-! GRg2: tuple(range(a, b)). -/
namespace G
open PySem PySem.Spec L2
section
variable {X : Cx} {W : WX} {pos p : Pos} {a b : Expr} {ca cb : E}
end
end G

/-! GItems: sorted(d.items()) of a dict with rising int keys. -/
namespace SrtI
open PySem PySem.Spec PyProof.Rows L2 SrtO Srt
def IsPk (h : Heap) (v : Value) (x : Int) : Prop := ∃ a o t u n, v = .ref a ∧ h.get? a = some o ∧ o.cls = .type "tuple" ∧ o.data = .seq #[.int x t, u] n
theorem IsPk.keeps {h h' : Heap} {v : Value} {x : Int} (p : IsPk h v x) (k : ∀ b o, h.get? b = some o → o.cls = .type "tuple" → h'.get? b = some o) : IsPk h' v x := by
  obtain ⟨a, o, t, u, n, e, ho, hc, hd⟩ := p
  exact ⟨a, o, t, u, n, e, k _ _ ho hc, hc, hd⟩
section
variable {prog : Program} {w : World} {A : Around} {E : Value → Shared → Prop} {s : Shared}
end
section
variable {X : Cx} {e : Expr} {te : TE} {p apos cpos pos : Pos}
end
end SrtI
namespace G
open PySem PySem.Spec L2
open Evl (Ex)
section
variable {X : Cx} {W : WX} {pos apos cpos p : Pos} {e : Expr} {ce : E}
end
end G

/-! GLenC: the length of a dict that is a cell. -/
namespace G
open PySem PySem.Spec L2
section
variable {X : Cx} {W : WX} {pos p : Pos} {e : Expr} {ce : E}
end
end G

/-! GEqS: == of two sealed dicts whose values are plain data. -/
namespace G
open PySem PySem.Spec L2
inductive Kq (K : PySem.W.Frag) (H : Hp) (ls : List (Key × V)) : List (Key × V) → Bool → Prop
  | nil : Kq K H ls [] true
  | miss {k : Key} {v : V} {r : List (Key × V)} : valV ls k = none → Kq K H ls ((k, v) :: r) false
  | hit {k : Key} {v u : V} {r : List (Key × V)} {d e : PyData} {b : Bool} : valV ls k = some u → Dp K H v d → Dp K H u e → SeqAt.shaped d = true → SeqAt.shaped e = true → Kq K H ls r b → Kq K H ls ((k, v) :: r) (PyData.eqv d e && b)
section
variable {X : Cx} {pins : List (Addr × Obj)} {σ : L2.St} {H : Hp} {s : Shared}
end
section
variable {X : Cx} {W : WX} {pos : Pos} {a b : Expr} {ca cb : E}
end
end G

/-! GIsO: isinstance(x, C) for an instance x of the own class C. -/
namespace G
open PySem PySem.Spec L2
/-- what isinstance wants of a class, beyond Cls -/
structure IsO (K : PySem.W.Frag) (C : Addr) : Prop where
  ha : PySem.W.findIn K (.ref C) "__class__" = some (some (.builtin "object.__class__"))
  hn : PySem.W.specialIn K (.builtin "object.__class__") "__get__" = some (some (.builtin "getset_descriptor.__get__"))
  htk : PySem.W.takesIn K (.builtin "object.__class__") = some true
  hm : PySem.W.mroIn K C (.type "object") = some true
section
variable {X : Cx} {W : WX} {pos p : Pos} {a : Expr} {ca : E} {C : Addr}
end
end G

namespace G
end G

/-! GSortQ: sorted(set(t)) for a tuple of whole numbers. -/
namespace G
open PySem PySem.Spec L2
section
variable {X : Cx} {W : WX} {pos p p' q : Pos} {a b e : Expr} {ca cb ce : E} {K : PySem.W.Frag}
end
end G

/-! GEndG: the law's end where the law itself knows that nothing is being shown (no repr is under way). -/
namespace G
open PySem PySem.Spec PyProof.Rows L2
/-- a def's promise in places where no repr is under way -/
structure FnOkG (P : Program) (w : World) (K : PySem.W.Frag) (mg : Str → Option Value) (base : Heap) (CX : CXT) (k : Nat) (f : Addr) (fd : FuncData) (ps : List Str) (sp : Sp) : Prop where
  run : ∀ (A : Around), A.guards = some [] → ∀ (outer : List Env) (s : Shared) (H : Hp) (args : Args) (us : List Value) (vs : List V) (Q : VK) (E : XK), Room k A → Env0 P w K mg base A outer s H →
    BindsTo s fd args (ps.zip us) → Vals vs us → sp vs H Q E → codeAny (model P w) A (.call (.ref f) args) (CR CX outer P w H s Q E) s
section
variable {P : Program} {w : World} {K : PySem.W.Frag} {mg : Str → Option Value} {base : Heap} {CX : CXT} {k : Nat} {x qual : Str} {params : Arguments} {body : List Stmt} {scope : Scope} {fd : FuncData} {dvs : List V} {kws : List (Str × V)} {N ps : List Str}
theorem FnOkG.of {f : Addr} {sp : Sp} (F : FnOk P w K mg base CX k f fd ps sp) : FnOkG P w K mg base CX k f fd ps sp := ⟨fun A _ => F.run A⟩
end
/-! ### the law's call -/
/-- what the abstract heap at the start hides: the script and the tables, nothing else -/
structure StartH (K : PySem.W.Frag) (s : Shared) (a : Addr) (T : List Addr) (H : Hp) : Prop where
  tb : ∀ b ∈ T, H b = some (.tbl #[])
  ok : ∀ b, H b = none ∨ b ∈ T ∨ ∃ o xs, H b = some (.frz o (.lst xs))
  at_ : ∀ b, H b ≠ none → b = a ∨ b ∈ T
  lk : H a ≠ none → K.lookup a = none
section
variable {P : Program} {w : World} {K : PySem.W.Frag} {mg mb : Str → Option Value} {CX : CXT} {k : Nat} {fa a : Addr} {cs : List (Addr × Addr)} {fd : FuncData} {x : Str} {sp : Sp} {s₁ : Shared} {vs : List Value} {ns : List Int}
end
end G

/-! GRepr: repr of lists and tuples. -/
namespace G
open PySem PySem.Spec L2
open Evl (Ex)
section
variable {X : Cx} {W : WX} {pos p : Pos} {e : Expr} {ce : E} {K : PySem.W.Frag}
end
/-! ### what is shown is short and valid -/
end G

/-! GObjO: len(o) and repr(o) of an instance of an own class with its own __len__ and __repr__, which raise nothing. -/
namespace L2
open PySem PySem.Spec PyProof.Rows
section
variable {X : Cx} {k : Nat} {f a C : Addr} {fd : FuncData} {ps : List Str} {sp : Sp} {pins : List (Addr × Obj)} {σ : St} {H : Hp} {s : Shared}
end
end L2
namespace G
open PySem PySem.Spec L2
section
variable {X : Cx} {W : WX} {pos p : Pos} {e : Expr} {ce : E} {sp : Spec} {k n : Nat} {C : Addr} {K : PySem.W.Frag} {mg : Str → Option Value}
end
end G

/-! GObjQ: o == u of two instances of one own class by its own __eq__, which raises nothing: True or False. -/
namespace L2
open PySem PySem.Spec PyProof.Rows
section
variable {X : Cx} {k : Nat} {f a b C : Addr} {fd : FuncData} {ps : List Str} {sp : Sp} {pins : List (Addr × Obj)} {σ : St} {H : Hp} {s : Shared}
end
end L2
namespace G
open PySem PySem.Spec L2
section
variable {X : Cx} {W : WX} {pos : Pos} {a b : Expr} {ca cb : E} {sp : Spec} {k n : Nat} {C : Addr} {K : PySem.W.Frag} {mg : Str → Option Value}
end
end G

/-! GObjN: o != u of two instances of one own class that has its own __eq__ and no __ne__. -/
namespace L2
open PySem PySem.Spec PyProof.Rows PySem.W
/-- what != wants of a class: __ne__ is the one of object -/
structure NeO (K : PySem.W.Frag) (C : Addr) : Prop where
  hf : PySem.W.findIn K (.ref C) "__ne__" = some (some (.builtin "object.__ne__"))
  hm : PySem.W.mroIn K C (.type "object") = some true
section
variable {prog : Program} {w : World} {A : Around} {E : Value → Shared → Prop} {s : Shared} {K : PySem.W.Frag} {x y C f : Addr} {h₀ : Heap} {m : Str → Option Value} {ox : Obj} {od : Option Obj}
open PySem.Builtin
end
section
variable {X : Cx} {k : Nat} {f a b C : Addr} {fd : FuncData} {ps : List Str} {sp : Sp} {pins : List (Addr × Obj)} {σ : St} {H : Hp} {s : Shared}
end
end L2
namespace G
open PySem PySem.Spec L2
section
variable {X : Cx} {W : WX} {pos : Pos} {a b : Expr} {ca cb : E} {sp : Spec} {k n : Nat} {C : Addr} {K : PySem.W.Frag} {mg : Str → Option Value}
end
end G

/-! GRvm: list.reverse. -/
namespace G
open PySem PySem.Spec L2
open Evl (Ex)
section
variable {X : Cx} {W : WX} {pos apos : Pos} {o : Expr} {co : E}
end
end G

/-! GObjD: a method with a keyword that is left out. -/
namespace L2
open PySem PySem.Spec PyProof.Rows
section
variable {X : Cx} {CX : CXT} {k : Nat} {f C : Addr} {fd : FuncData} {ps ks : List Str} {sp : Sp} {dvs : List V} {ds : List Value} {E : St → XK} {x m : Str} {p pos apos : Pos} {e o : Expr} {es : List Expr} {ta : TE} {t : TA}
end
end L2
namespace G
open PySem PySem.Spec L2
/-- a method, its last keyword left out -/
structure FnMD (P : Program) (w : World) (K : PySem.W.Frag) (mg : Str → Option Value) (base : Heap) (C : Addr) (m : Str) (k n : Nat) (sp : Spec) : Prop where
  ex : ∃ f fd ps spF dv vs ds, Cls K C ∧ Meth K C m f ∧ FnOk P w K mg base (L2N.CX P w) k f fd ps (lift K mg spF) ∧ Binds K fd ps ds ∧ Vals vs ds ∧ (∀ wd, RpL K wd dv vs) ∧ ∀ us cs Q PX, sp us cs Q PX → spF (us ++ dv) cs Q PX
section
variable {X : Cx} {W : WX} {pos p apos : Pos} {e o : Expr} {es : List Expr} {ces : Es} {co : E} {sp : Spec} {m : Str} {k n : Nat} {C : Addr}
end
section
variable {P : Program} {w : World} {K : PySem.W.Frag} {mg : Str → Option Value} {base : Heap} {C : Addr} {x m : Str} {k n : Nat} {sp spF : Spec} {f : Addr} {fd : FuncData} {ps : List Str} {qual : Str} {params : Arguments} {body : List Stmt} {scope : Scope}
end
end G

namespace K50
open PySem L2 G
abbrev N_check_tuple : List Str := ["step", "nesting", "pos"]
theorem sc_check_tuple : FnScope N_check_tuple ["step", "nesting", "pos"] (defScope s_check_tuple) := ⟨rfl, rfl, rfl, by decide +kernel, rfl, by decide +kernel, by decide +kernel⟩
theorem js_check_tuple {P : Program} {w : World} {K : PySem.W.Frag} {mg : Str → Option Value} {base : Heap} {k : Nat} (n_int : mg "int" = none) (n_isinstance : mg "isinstance" = none) (n_len : mg "len" = none) (m_COUNT_LIMIT : ∃ t, mg "COUNT_LIMIT" = some (.int 1000000000000000000000000000000 t)) (m_MAX_NESTING : ∃ t, mg "MAX_NESTING" = some (.int 4 t)) (XC_BadStep : Xc P w K mg base "BadStep" "pos") (l_rse : 2 ≤ k) {f : Addr} {cdv : Value} {A : Around} {outer : List Env} {s : Shared} {H : Hp} {E : XK}
    (C : Ct (cxOf (L2N.CX P w) P w K mg base N_check_tuple "check_tuple" (defScope s_check_tuple) f cdv A outer s H E) (wxOf E) k) :
    JSs (cxOf (L2N.CX P w) P w K mg base N_check_tuple "check_tuple" (defScope s_check_tuple) f cdv A outer s H E) (wxOf E) (defBody s_check_tuple) (c_check_tupleX) :=
  (jss_cons (js_if (jt_w (jw_or (jt_ne C.hu (j_len (by rfl) n_len (j_v 0)) j_int) (jw_or1 (jt_notIn (j_ix (j_v 0) j_int) (j_tup (ja_cons j_str (ja_cons j_str ja_nil))))))) (jss_one (js_raise XC_BadStep (C.hr.mono l_rse) C.tk C.hc (by rfl) (j_v 2))) jss_nil)
  (jss_cons (js_if (jt_w (jw_and (jt_eq C.hu (j_ix (j_v 0) j_int) j_str) (jw_and1 (jt_w (jw_or (jt_gt (j_v 1) j_int) (jw_or1 (jt_not (jt_val (j_isi (t := .int) (by rfl) n_isinstance (by rfl) n_int boot_intG (j_ix (j_v 0) j_int)))))))))) (jss_one (js_raise XC_BadStep (C.hr.mono l_rse) C.tk C.hc (by rfl) (j_v 2))) jss_nil)
  (jss_one (js_if (jt_w (jw_and (jt_eq C.hu (j_ix (j_v 0) j_int) j_str) (jw_and1 (jt_w (jw_or (jt_val (j_isi (t := .int) (by rfl) n_isinstance (by rfl) n_int boot_intG (j_ix (j_v 0) j_int))) (jw_or (jt_eq C.hu (j_v 1) (j_gint (by rfl) m_MAX_NESTING)) (jw_or1 (jt_not (jt_chLeLe j_int (j_ix (j_v 0) j_int) (j_gint (by rfl) m_COUNT_LIMIT)))))))))) (jss_one (js_raise XC_BadStep (C.hr.mono l_rse) C.tk C.hc (by rfl) (j_v 2))) jss_nil))))
abbrev N_check_steps : List Str := ["steps", "nesting", "pos", "step"]
theorem sc_check_steps : FnScope N_check_steps ["steps", "nesting", "pos"] (defScope s_check_steps) := ⟨rfl, rfl, rfl, by decide +kernel, rfl, by decide +kernel, by decide +kernel⟩
theorem js_check_steps {P : Program} {w : World} {K : PySem.W.Frag} {mg : Str → Option Value} {base : Heap} {k : Nat} (n_int : mg "int" = none) (n_isinstance : mg "isinstance" = none) (m_MAX_STEPS : ∃ t, mg "MAX_STEPS" = some (.int 100 t)) {p_check_steps : G.Spec} {k_check_steps n_check_steps : Nat} (F_check_steps : Fn P w K mg base "check_steps" k_check_steps n_check_steps p_check_steps) (l_check_steps : k_check_steps ≤ k) {p_check_tuple : G.Spec} {k_check_tuple n_check_tuple : Nat} (F_check_tuple : Fn P w K mg base "check_tuple" k_check_tuple n_check_tuple p_check_tuple) (l_check_tuple : k_check_tuple ≤ k) (XC_TooLong : Xc P w K mg base "TooLong" "limit") (l_rse : 2 ≤ k) {f : Addr} {cdv : Value} {A : Around} {outer : List Env} {s : Shared} {H : Hp} {E : XK}
    (C : Ct (cxOf (L2N.CX P w) P w K mg base N_check_steps "check_steps" (defScope s_check_steps) f cdv A outer s H E) (wxOf E) k) :
    JSs (cxOf (L2N.CX P w) P w K mg base N_check_steps "check_steps" (defScope s_check_steps) f cdv A outer s H E) (wxOf E) (defBody s_check_steps) (c_check_stepsX p_check_steps p_check_tuple) :=
  (jss_cons (js_for (own := [3]) C.hp rfl (ji_seq (j_v 0)) (jg_nm 3 C.hN rfl (by first | exact Or.inl rfl | exact Or.inr rfl) (by decide)) (jss_cons (js_if (jt_eq C.hu (j_v 2) (j_gint (by rfl) m_MAX_STEPS)) (jss_one (js_raise XC_TooLong (C.hr.mono l_rse) C.tk C.hc (by rfl) (j_gint (by rfl) m_MAX_STEPS))) jss_nil)
  (jss_cons (js_augAdd 2 C.hN rfl (by first | exact Or.inl rfl | exact Or.inr rfl) j_int)
  (jss_one (js_if (jt_not (jt_val (j_isi (t := .int) (by rfl) n_isinstance (by rfl) n_int boot_intG (j_v 3)))) (jss_cons (js_exp (j_call F_check_tuple (C.hr.mono l_check_tuple) C.tk (by rfl) (ja_cons (j_v 3) (ja_cons (j_v 1) (ja_cons (j_sub (j_v 2) j_int) ja_nil)))))
  (jss_one (js_if (jt_eq C.hu (j_ix (j_v 3) j_int) j_str) (jss_one (js_set 2 C.hN rfl (by first | exact Or.inl rfl | exact Or.inr rfl) (j_call F_check_steps (C.hr.mono l_check_steps) C.tk (by rfl) (ja_cons (j_ix (j_v 3) j_int) (ja_cons (j_add (j_v 1) j_int) (ja_cons (j_v 2) ja_nil)))))) jss_nil))) jss_nil)))))
  (jss_one (js_ret (j_v 2))))
abbrev N_check_history : List Str := ["history"]
theorem sc_check_history : FnScope N_check_history ["history"] (defScope s_check_history) := ⟨rfl, rfl, rfl, by decide +kernel, rfl, by decide +kernel, by decide +kernel⟩
theorem js_check_history {P : Program} {w : World} {K : PySem.W.Frag} {mg : Str → Option Value} {base : Heap} {k : Nat} {p_check_steps : G.Spec} {k_check_steps n_check_steps : Nat} (F_check_steps : Fn P w K mg base "check_steps" k_check_steps n_check_steps p_check_steps) (l_check_steps : k_check_steps ≤ k) {f : Addr} {cdv : Value} {A : Around} {outer : List Env} {s : Shared} {H : Hp} {E : XK}
    (C : Ct (cxOf (L2N.CX P w) P w K mg base N_check_history "check_history" (defScope s_check_history) f cdv A outer s H E) (wxOf E) k) :
    JSs (cxOf (L2N.CX P w) P w K mg base N_check_history "check_history" (defScope s_check_history) f cdv A outer s H E) (wxOf E) (defBody s_check_history) (c_check_history p_check_steps) :=
  (jss_one (js_exp (j_call F_check_steps (C.hr.mono l_check_steps) C.tk (by rfl) (ja_cons (j_v 0) (ja_cons j_int (ja_cons j_int ja_nil))))))
abbrev N_parse_number : List Str := ["text", "digits", "sign"]
theorem sc_parse_number : FnScope N_parse_number ["text"] (defScope s_parse_number) := ⟨rfl, rfl, rfl, by decide +kernel, rfl, by decide +kernel, by decide +kernel⟩
theorem js_parse_number {P : Program} {w : World} {K : PySem.W.Frag} {mg : Str → Option Value} {base : Heap} {k : Nat} (n_all : mg "all" = none) (n_int : mg "int" = none) (n_len : mg "len" = none) (m_MAX_DIGITS : ∃ t, mg "MAX_DIGITS" = some (.int 31 t)) (m_DIGITS : ∃ t, mg "DIGITS" = some (.str "0123456789" t)) {f : Addr} {cdv : Value} {A : Around} {outer : List Env} {s : Shared} {H : Hp} {E : XK}
    (C : Ct (cxOf (L2N.CX P w) P w K mg base N_parse_number "parse_number" (defScope s_parse_number) f cdv A outer s H E) (wxOf E) k) :
    JSs (cxOf (L2N.CX P w) P w K mg base N_parse_number "parse_number" (defScope s_parse_number) f cdv A outer s H E) (wxOf E) (defBody s_parse_number) (c_parse_number) :=
  (jss_cons (js_set 1 C.hN rfl (by first | exact Or.inl rfl | exact Or.inr rfl) (je_if (jt_eq C.hu (j_cutHiA (j_v 0) j_int) j_str) (j_cutLoA (j_v 0) j_int) (j_v 0)))
  (jss_cons (js_if (jt_w (jw_or (jt_not (jt_chLeLe j_int (j_len (by rfl) n_len (j_v 1)) (j_gint (by rfl) m_MAX_DIGITS))) (jw_or1 (jt_not (jt_val (j_all rfl (by rfl) n_all (j_comp false (own := [("sign", 2)]) rfl C.hN (ji_str (j_v 1)) (blkOk_by (N := N_parse_number) (sc := defScope s_parse_number) (own := [("sign", 2)]) (by decide +kernel)) (fun _ _ _ _ _ => (jg_nm 2 C.hN rfl (by first | exact Or.inl rfl | exact Or.inr rfl) (by decide))) (fun _ _ _ _ _ => jts_nil) (fun _ _ _ _ _ => (j_inStr (j_v 2) (j_gstr (by rfl) m_DIGITS)))))))))) (jss_one (js_ret j_non)) jss_nil)
  (jss_cons (js_if (jt_w (jw_and (jt_eq C.hu (j_ixA (j_v 1) j_int) j_str) (jw_and1 (jt_ne C.hu (j_v 0) j_str)))) (jss_one (js_ret j_non)) jss_nil)
  (jss_one (js_ret (j_intS (by rfl) n_int (j_v 0)))))))
abbrev N_format_step : List Str := ["step"]
theorem sc_format_step : FnScope N_format_step ["step"] (defScope s_format_step) := ⟨rfl, rfl, rfl, by decide +kernel, rfl, by decide +kernel, by decide +kernel⟩
theorem js_format_step {P : Program} {w : World} {K : PySem.W.Frag} {mg : Str → Option Value} {base : Heap} {k : Nat} (n_int : mg "int" = none) (n_isinstance : mg "isinstance" = none) (n_str : mg "str" = none) {p_format_steps : G.Spec} {k_format_steps n_format_steps : Nat} (F_format_steps : Fn P w K mg base "format_steps" k_format_steps n_format_steps p_format_steps) (l_format_steps : k_format_steps ≤ k) {f : Addr} {cdv : Value} {A : Around} {outer : List Env} {s : Shared} {H : Hp} {E : XK}
    (C : Ct (cxOf (L2N.CX P w) P w K mg base N_format_step "format_step" (defScope s_format_step) f cdv A outer s H E) (wxOf E) k) :
    JSs (cxOf (L2N.CX P w) P w K mg base N_format_step "format_step" (defScope s_format_step) f cdv A outer s H E) (wxOf E) (defBody s_format_step) (c_format_step p_format_steps) :=
  (jss_cons (js_if (jt_val (j_isi (t := .int) (by rfl) n_isinstance (by rfl) n_int boot_intG (j_v 0))) (jss_one (js_ret (j_strI (by rfl) n_str (j_v 0)))) jss_nil)
  (jss_cons (js_if (jt_eq C.hu (j_ix (j_v 0) j_int) j_str) (jss_one (js_ret (j_joined (jp_cons (j_fmt (j_ix (j_v 0) j_int)) (jp_cons j_str (jp_cons (j_fmt (j_ix (j_v 0) j_int)) jp_nil)))))) jss_nil)
  (jss_one (js_ret (j_joined (jp_cons (j_fmt (j_ix (j_v 0) j_int)) (jp_cons j_str (jp_cons (j_fmt (j_call F_format_steps (C.hr.mono l_format_steps) C.tk (by rfl) (ja_cons (j_ix (j_v 0) j_int) ja_nil))) (jp_cons j_str jp_nil)))))))))
abbrev N_format_steps : List Str := ["steps", "step"]
theorem sc_format_steps : FnScope N_format_steps ["steps"] (defScope s_format_steps) := ⟨rfl, rfl, rfl, by decide +kernel, rfl, by decide +kernel, by decide +kernel⟩
theorem js_format_steps {P : Program} {w : World} {K : PySem.W.Frag} {mg : Str → Option Value} {base : Heap} {k : Nat} {p_format_step : G.Spec} {k_format_step n_format_step : Nat} (F_format_step : Fn P w K mg base "format_step" k_format_step n_format_step p_format_step) (l_format_step : k_format_step ≤ k) {f : Addr} {cdv : Value} {A : Around} {outer : List Env} {s : Shared} {H : Hp} {E : XK}
    (C : Ct (cxOf (L2N.CX P w) P w K mg base N_format_steps "format_steps" (defScope s_format_steps) f cdv A outer s H E) (wxOf E) k) :
    JSs (cxOf (L2N.CX P w) P w K mg base N_format_steps "format_steps" (defScope s_format_steps) f cdv A outer s H E) (wxOf E) (defBody s_format_steps) (c_format_steps p_format_step) :=
  (jss_one (js_ret (j_join j_str (j_comp false (own := [("step", 1)]) rfl C.hN (ji_seq (j_v 0)) (blkOk_by (N := N_format_steps) (sc := defScope s_format_steps) (own := [("step", 1)]) (by decide +kernel)) (fun _ _ _ _ _ => (jg_nm 1 C.hN rfl (by first | exact Or.inl rfl | exact Or.inr rfl) (by decide))) (fun _ _ _ _ _ => jts_nil) (fun _ _ _ _ _ => (j_call F_format_step (C.hr.mono l_format_step) takesN (by rfl) (ja_cons (j_v 1) ja_nil)))))))
abbrev N_format_history : List Str := ["history"]
theorem sc_format_history : FnScope N_format_history ["history"] (defScope s_format_history) := ⟨rfl, rfl, rfl, by decide +kernel, rfl, by decide +kernel, by decide +kernel⟩
theorem js_format_history {P : Program} {w : World} {K : PySem.W.Frag} {mg : Str → Option Value} {base : Heap} {k : Nat} {p_check_history : G.Spec} {k_check_history n_check_history : Nat} (F_check_history : Fn P w K mg base "check_history" k_check_history n_check_history p_check_history) (l_check_history : k_check_history ≤ k) {p_format_steps : G.Spec} {k_format_steps n_format_steps : Nat} (F_format_steps : Fn P w K mg base "format_steps" k_format_steps n_format_steps p_format_steps) (l_format_steps : k_format_steps ≤ k) {f : Addr} {cdv : Value} {A : Around} {outer : List Env} {s : Shared} {H : Hp} {E : XK}
    (C : Ct (cxOf (L2N.CX P w) P w K mg base N_format_history "format_history" (defScope s_format_history) f cdv A outer s H E) (wxOf E) k) :
    JSs (cxOf (L2N.CX P w) P w K mg base N_format_history "format_history" (defScope s_format_history) f cdv A outer s H E) (wxOf E) (defBody s_format_history) (c_format_history p_check_history p_format_steps) :=
  (jss_cons (js_exp (j_call F_check_history (C.hr.mono l_check_history) C.tk (by rfl) (ja_cons (j_v 0) ja_nil)))
  (jss_one (js_ret (j_call F_format_steps (C.hr.mono l_format_steps) C.tk (by rfl) (ja_cons (j_v 0) ja_nil)))))
def cM_parse_historyX_1 (cO : Nat) (p_Reader___init__ : G.Spec) (p_Reader_read_steps__M : G.Spec) (p_check_history : G.Spec) : S := (.asg (.nm 1) (.app (sMk cO p_Reader___init__) (.cons (.v 0) .nil)))
def cM_parse_historyX_2 (cO : Nat) (p_Reader___init__ : G.Spec) (p_Reader_read_steps__M : G.Spec) (p_check_history : G.Spec) : S := (.asg (.nm 2) (.meth (chkI cO "read_steps") p_Reader_read_steps__M (.v 1) .nil))
def cM_parse_historyX_3 (cO : Nat) (p_Reader___init__ : G.Spec) (p_Reader_read_steps__M : G.Spec) (p_check_history : G.Spec) : S := (.rse (fun ds => er "ParseError" "pos" (ds.headD .non)) (.cons (.c (.int 0)) .nil))
def cM_parse_historyX_4 (cO : Nat) (p_Reader___init__ : G.Spec) (p_Reader_read_steps__M : G.Spec) (p_check_history : G.Spec) : S := (.ite (.app sLt (.cons (.app (sFld cO "at") (.cons (.v 1) .nil)) (.cons (.app sLen (.cons (.v 0) .nil)) .nil))) (cM_parse_historyX_3 cO p_Reader___init__ p_Reader_read_steps__M p_check_history) .skip)
def cM_parse_historyX_5 (cO : Nat) (p_Reader___init__ : G.Spec) (p_Reader_read_steps__M : G.Spec) (p_check_history : G.Spec) : S := (.exp (.app p_check_history (.cons (.v 2) .nil)))
def cM_parse_historyX_6 (cO : Nat) (p_Reader___init__ : G.Spec) (p_Reader_read_steps__M : G.Spec) (p_check_history : G.Spec) : S := (.tr (fun _ => true) (cM_parse_historyX_5 cO p_Reader___init__ p_Reader_read_steps__M p_check_history) fun _ => G.stuck)
def cM_parse_historyX_7 (cO : Nat) (p_Reader___init__ : G.Spec) (p_Reader_read_steps__M : G.Spec) (p_check_history : G.Spec) : S := (.ret (.v 2))
def cM_parse_historyX (cO : Nat) (p_Reader___init__ : G.Spec) (p_Reader_read_steps__M : G.Spec) (p_check_history : G.Spec) : S := (.seq (cM_parse_historyX_1 cO p_Reader___init__ p_Reader_read_steps__M p_check_history) (.seq (cM_parse_historyX_2 cO p_Reader___init__ p_Reader_read_steps__M p_check_history) (.seq (cM_parse_historyX_4 cO p_Reader___init__ p_Reader_read_steps__M p_check_history) (.seq (cM_parse_historyX_6 cO p_Reader___init__ p_Reader_read_steps__M p_check_history) (cM_parse_historyX_7 cO p_Reader___init__ p_Reader_read_steps__M p_check_history)))))
abbrev N_parse_history : List Str := ["text", "reader", "result", "e"]
theorem sc_parse_history : FnScope N_parse_history ["text"] (defScope s_parse_history) := ⟨rfl, rfl, rfl, by decide +kernel, rfl, by decide +kernel, by decide +kernel⟩
theorem js_parse_history {P : Program} {w : World} {K : PySem.W.Frag} {mg : Str → Option Value} {base : Heap} {k : Nat} (n_len : mg "len" = none) {cO : Addr} (CO : Cls K cO) (NA_at : NoAttr K cO "at") {p_Reader___init__ : G.Spec} {k_Reader___init__ n_Reader___init__ : Nat} (F_Reader___init__ : FnI P w K mg base "Reader" cO k_Reader___init__ n_Reader___init__ p_Reader___init__) (l_Reader___init__ : k_Reader___init__ + 1 ≤ k) {p_Reader_read_steps__M : G.Spec} {k_Reader_read_steps__M n_Reader_read_steps__M : Nat} (F_Reader_read_steps__M : FnM P w K mg base cO "read_steps" k_Reader_read_steps__M n_Reader_read_steps__M p_Reader_read_steps__M) (l_Reader_read_steps__M : k_Reader_read_steps__M ≤ k) {p_check_history : G.Spec} {k_check_history n_check_history : Nat} (F_check_history : Fn P w K mg base "check_history" k_check_history n_check_history p_check_history) (l_check_history : k_check_history ≤ k) (XC_ParseError : Xc P w K mg base "ParseError" "pos") (l_rse : 2 ≤ k) {f : Addr} {cdv : Value} {A : Around} {outer : List Env} {s : Shared} {H : Hp} {E : XK}
    (C : Ct (cxOf (L2N.CX P w) P w K mg base N_parse_history "parse_history" (defScope s_parse_history) f cdv A outer s H E) (wxOf E) k) :
    JSs (cxOf (L2N.CX P w) P w K mg base N_parse_history "parse_history" (defScope s_parse_history) f cdv A outer s H E) (wxOf E) (defBody s_parse_history) (cM_parse_historyX cO p_Reader___init__ p_Reader_read_steps__M p_check_history) :=
  (jss_cons (js_set 1 C.hN rfl (by first | exact Or.inl rfl | exact Or.inr rfl) (j_make F_Reader___init__ (C.hr.mono l_Reader___init__) C.tk (by rfl) (ja_cons (j_v 0) ja_nil)))
  (jss_cons (js_set 2 C.hN rfl (by first | exact Or.inl rfl | exact Or.inr rfl) (j_meth0 F_Reader_read_steps__M (C.hr.mono l_Reader_read_steps__M) C.tk (j_v 1)))
  (jss_cons (js_if (jt_lt (j_fld CO NA_at (j_v 1)) (j_len (by rfl) n_len (j_v 0))) (jss_one (js_raise XC_ParseError (C.hr.mono l_rse) C.tk C.hc (by rfl) j_int)) jss_nil)
  (jss_cons (js_tryN (C.nox.use fun C => (jss_one (js_exp (j_call F_check_history (C.hr.mono l_check_history) C.tk (by rfl) (ja_cons (j_v 2) ja_nil))))))
  (jss_one (js_ret (j_v 2)))))))
abbrev N__law_start : List Str := ["_law_script"]
theorem sc__law_start : FnScope N__law_start ["_law_script"] (defScope s__law_start) := ⟨rfl, rfl, rfl, by decide +kernel, rfl, by decide +kernel, by decide +kernel⟩
theorem js__law_start {P : Program} {w : World} {K : PySem.W.Frag} {mg : Str → Option Value} {base : Heap} {k : Nat} (n_len : mg "len" = none) (n_list : mg "list" = none) {f : Addr} {cdv : Value} {A : Around} {outer : List Env} {s : Shared} {H : Hp} {E : XK}
    (C : Ct (cxOf (L2N.CX P w) P w K mg base N__law_start "_law_start" (defScope s__law_start) f cdv A outer s H E) (wxOf E) k) :
    JSs (cxOf (L2N.CX P w) P w K mg base N__law_start "_law_start" (defScope s__law_start) f cdv A outer s H E) (wxOf E) (defBody s__law_start) (c_start) :=
  (jss_one (js_ret (j_listM (ja_cons (j_listOf (by rfl) n_list (j_cutScr (j_v 0))) (ja_cons j_int (ja_cons j_int (ja_cons (j_add j_int (j_mul j_int (j_len (by rfl) n_len (j_cutScr (j_v 0))))) ja_nil)))))))
abbrev N__law_take : List Str := ["_law_draw", "_law_many", "_law_cell", "_law_digit", "_law_square"]
theorem sc__law_take : FnScope N__law_take ["_law_draw", "_law_many"] (defScope s__law_take) := ⟨rfl, rfl, rfl, by decide +kernel, rfl, by decide +kernel, by decide +kernel⟩
theorem js__law_take {P : Program} {w : World} {K : PySem.W.Frag} {mg : Str → Option Value} {base : Heap} {k : Nat} (n_len : mg "len" = none) {f : Addr} {cdv : Value} {A : Around} {outer : List Env} {s : Shared} {H : Hp} {E : XK}
    (C : Ct (cxOf (L2N.CX P w) P w K mg base N__law_take "_law_take" (defScope s__law_take) f cdv A outer s H E) (wxOf E) k) :
    JSs (cxOf (L2N.CX P w) P w K mg base N__law_take "_law_take" (defScope s__law_take) f cdv A outer s H E) (wxOf E) (defBody s__law_take) (c_take) :=
  (jss_cons (js_if (jt_w (jw_and (jt_lt (j_ix (j_v 0) j_int) (j_v 1)) (jw_and1 (jt_lt (j_ix (j_v 0) j_int) (j_len (by rfl) n_len (j_ix (j_v 0) j_int)))))) (jss_cons (js_set 2 C.hN rfl (by first | exact Or.inl rfl | exact Or.inr rfl) (j_ix (j_ix (j_v 0) j_int) (j_ix (j_v 0) j_int)))
  (jss_cons (js_setIx (j_add (j_ix (j_v 0) j_int) j_int) (j_v 0) j_int)
  (jss_cons (js_setIx j_int (j_v 0) j_int)
  (jss_cons (js_if (jt_ge (j_v 2) (j_pow j_int j_int)) (jss_one (js_setIx (j_v 2) (j_v 0) j_int)) jss_nil)
  (jss_one (js_setIx (j_mod (j_add (j_add (j_mul (j_ix (j_v 0) j_int) j_int) (j_mul (j_mod (j_v 2) j_int) j_int)) (j_ix (j_v 0) j_int)) j_int) (j_v 0) j_int)))))) jss_nil)
  (jss_cons (js_if (jt_ge (j_ix (j_v 0) j_int) (j_v 1)) (jss_cons (js_set 3 C.hN rfl (by first | exact Or.inl rfl | exact Or.inr rfl) (j_mod (j_ix (j_v 0) j_int) (j_v 1)))
  (jss_cons (js_setIx (j_div (j_ix (j_v 0) j_int) (j_v 1)) (j_v 0) j_int)
  (jss_one (js_ret (j_v 3))))) jss_nil)
  (jss_cons (js_set 4 C.hN rfl (by first | exact Or.inl rfl | exact Or.inr rfl) (j_mod (j_mul (j_ix (j_v 0) j_int) (j_ix (j_v 0) j_int)) j_int))
  (jss_cons (js_setIx (j_mod (j_add (j_add (j_mul (j_v 4) j_int) (j_mul (j_ix (j_v 0) j_int) j_int)) j_int) j_int) (j_v 0) j_int)
  (jss_one (js_ret (j_mod (j_div (j_ix (j_v 0) j_int) j_int) (j_v 1))))))))
abbrev N__law_of : List Str := ["_law_draw", "_law_some"]
theorem sc__law_of : FnScope N__law_of ["_law_draw", "_law_some"] (defScope s__law_of) := ⟨rfl, rfl, rfl, by decide +kernel, rfl, by decide +kernel, by decide +kernel⟩
theorem js__law_of {P : Program} {w : World} {K : PySem.W.Frag} {mg : Str → Option Value} {base : Heap} {k : Nat} (n_len : mg "len" = none) {p__law_take : G.Spec} {k__law_take n__law_take : Nat} (F__law_take : Fn P w K mg base "_law_take" k__law_take n__law_take p__law_take) (l__law_take : k__law_take ≤ k) {f : Addr} {cdv : Value} {A : Around} {outer : List Env} {s : Shared} {H : Hp} {E : XK}
    (C : Ct (cxOf (L2N.CX P w) P w K mg base N__law_of "_law_of" (defScope s__law_of) f cdv A outer s H E) (wxOf E) k) :
    JSs (cxOf (L2N.CX P w) P w K mg base N__law_of "_law_of" (defScope s__law_of) f cdv A outer s H E) (wxOf E) (defBody s__law_of) (c_of p__law_take) :=
  (jss_one (js_ret (j_ix (j_v 1) (j_call F__law_take (C.hr.mono l__law_take) C.tk (by rfl) (ja_cons (j_v 0) (ja_cons (j_len (by rfl) n_len (j_v 1)) ja_nil))))))
abbrev N__law_same : List Str := ["_law_found", "_law_due", "_law_one", "_law_other"]
theorem sc__law_same : FnScope N__law_same ["_law_found", "_law_due"] (defScope s__law_same) := ⟨rfl, rfl, rfl, by decide +kernel, rfl, by decide +kernel, by decide +kernel⟩
theorem js__law_same {P : Program} {w : World} {K : PySem.W.Frag} {mg : Str → Option Value} {base : Heap} {k : Nat} (n_all : mg "all" = none) (n_bool : mg "bool" = none) (n_int : mg "int" = none) (n_isinstance : mg "isinstance" = none) (n_len : mg "len" = none) (n_list : mg "list" = none) (n_str : mg "str" = none) (n_tuple : mg "tuple" = none) (n_zip : mg "zip" = none) {p__law_same : G.Spec} {k__law_same n__law_same : Nat} (F__law_same : Fn P w K mg base "_law_same" k__law_same n__law_same p__law_same) (l__law_same : k__law_same ≤ k) {f : Addr} {cdv : Value} {A : Around} {outer : List Env} {s : Shared} {H : Hp} {E : XK}
    (C : Ct (cxOf (L2N.CX P w) P w K mg base N__law_same "_law_same" (defScope s__law_same) f cdv A outer s H E) (wxOf E) k) :
    JSs (cxOf (L2N.CX P w) P w K mg base N__law_same "_law_same" (defScope s__law_same) f cdv A outer s H E) (wxOf E) (defBody s__law_same) (c_same p__law_same) :=
  (jss_cons (js_if (jt_isN (j_v 1) j_non) (jss_one (js_ret (j_isN (j_v 0) j_non))) jss_nil)
  (jss_cons (js_if (jt_val (j_isi2 (t := .list) (t' := .tuple) (by rfl) n_isinstance (by rfl) n_list boot_listG (by rfl) n_tuple boot_tupleG (j_v 1))) (jss_cons (js_if (jt_w (jw_or (jt_ne C.hu (j_isi (t := .list) (by rfl) n_isinstance (by rfl) n_list boot_listG (j_v 0)) (j_isi (t := .list) (by rfl) n_isinstance (by rfl) n_list boot_listG (j_v 1))) (jw_or1 (jt_ne C.hu (j_isi (t := .tuple) (by rfl) n_isinstance (by rfl) n_tuple boot_tupleG (j_v 0)) (j_isi (t := .tuple) (by rfl) n_isinstance (by rfl) n_tuple boot_tupleG (j_v 1)))))) (jss_one (js_ret j_bl)) jss_nil)
  (jss_one (js_ret (je_and (j_eq C.hu (j_len (by rfl) n_len (j_v 0)) (j_len (by rfl) n_len (j_v 1))) (je_one (j_all rfl (by rfl) n_all (j_comp false (own := [("_law_one", 2), ("_law_other", 3)]) rfl C.hN (ji_zip (by rfl) n_zip (j_v 0) (j_v 1)) (blkOk_by (N := N__law_same) (sc := defScope s__law_same) (own := [("_law_one", 2), ("_law_other", 3)]) (by decide +kernel)) (fun _ _ _ _ _ => (jg_tup rfl (jgs_cons (jg_nm 2 C.hN rfl (by first | exact Or.inl rfl | exact Or.inr rfl) (by decide)) (jgs_cons (jg_nm 3 C.hN rfl (by first | exact Or.inl rfl | exact Or.inr rfl) (by decide)) jgs_nil)))) (fun _ _ _ _ _ => jts_nil) (fun _ _ _ _ _ => (j_call F__law_same (C.hr.mono l__law_same) takesN (by rfl) (ja_cons (j_v 2) (ja_cons (j_v 3) ja_nil))))))))))) jss_nil)
  (jss_cons (js_if (jt_w (jw_or (jt_ne C.hu (j_isi (t := .bool) (by rfl) n_isinstance (by rfl) n_bool boot_boolG (j_v 1)) (j_isi (t := .bool) (by rfl) n_isinstance (by rfl) n_bool boot_boolG (j_v 0))) (jw_or1 (jt_ne C.hu (j_isi (t := .int) (by rfl) n_isinstance (by rfl) n_int boot_intG (j_v 1)) (j_isi (t := .int) (by rfl) n_isinstance (by rfl) n_int boot_intG (j_v 0)))))) (jss_one (js_ret j_bl)) jss_nil)
  (jss_one (js_ret (je_and (j_eq C.hu (j_isi (t := .str) (by rfl) n_isinstance (by rfl) n_str boot_strG (j_v 1)) (j_isi (t := .str) (by rfl) n_isinstance (by rfl) n_str boot_strG (j_v 0))) (je_one (j_eq C.hu (j_v 0) (j_v 1)))))))))
abbrev N__law_step : List Str := ["_law_draw", "_law_size", "_law_deep", "_law_count", "_law_steps", "_law_k"]
theorem sc__law_step : FnScope N__law_step ["_law_draw", "_law_size", "_law_deep"] (defScope s__law_step) := ⟨rfl, rfl, rfl, by decide +kernel, rfl, by decide +kernel, by decide +kernel⟩
theorem js__law_step {P : Program} {w : World} {K : PySem.W.Frag} {mg : Str → Option Value} {base : Heap} {k : Nat} (n_range : mg "range" = none) (n_tuple : mg "tuple" = none) {p__law_of : G.Spec} {k__law_of n__law_of : Nat} (F__law_of : Fn P w K mg base "_law_of" k__law_of n__law_of p__law_of) (l__law_of : k__law_of ≤ k) {p__law_step : G.Spec} {k__law_step n__law_step : Nat} (F__law_step : Fn P w K mg base "_law_step" k__law_step n__law_step p__law_step) (l__law_step : k__law_step ≤ k) {p__law_take : G.Spec} {k__law_take n__law_take : Nat} (F__law_take : Fn P w K mg base "_law_take" k__law_take n__law_take p__law_take) (l__law_take : k__law_take ≤ k) {f : Addr} {cdv : Value} {A : Around} {outer : List Env} {s : Shared} {H : Hp} {E : XK}
    (C : Ct (cxOf (L2N.CX P w) P w K mg base N__law_step "_law_step" (defScope s__law_step) f cdv A outer s H E) (wxOf E) k) :
    JSs (cxOf (L2N.CX P w) P w K mg base N__law_step "_law_step" (defScope s__law_step) f cdv A outer s H E) (wxOf E) (defBody s__law_step) (c_l_step p__law_of p__law_step p__law_take) :=
  (jss_cons (js_if (jt_w (jw_or (jt_eq C.hu (j_v 2) j_int) (jw_or1 (jt_gt (j_call F__law_take (C.hr.mono l__law_take) C.tk (by rfl) (ja_cons (j_v 0) (ja_cons j_int ja_nil))) j_int)))) (jss_one (js_ret (j_call F__law_take (C.hr.mono l__law_take) C.tk (by rfl) (ja_cons (j_v 0) (ja_cons (j_v 1) ja_nil))))) jss_nil)
  (jss_cons (js_set 3 C.hN rfl (by first | exact Or.inl rfl | exact Or.inr rfl) (j_call F__law_of (C.hr.mono l__law_of) C.tk (by rfl) (ja_cons (j_v 0) (ja_cons (j_list (k := 0) (ja_cons j_int (ja_cons j_int (ja_cons j_int (ja_cons j_int (ja_cons (j_call F__law_take (C.hr.mono l__law_take) C.tk (by rfl) (ja_cons (j_v 0) (ja_cons j_int ja_nil))) (ja_cons (j_pow j_int j_int) (ja_cons (j_call F__law_take (C.hr.mono l__law_take) C.tk (by rfl) (ja_cons (j_v 0) (ja_cons (j_pow j_int j_int) ja_nil))) ja_nil)))))))) ja_nil))))
  (jss_cons (js_setc 4 false (own := [("_law_k", 5)]) rfl C.hN rfl rfl (sw_true rfl rfl rfl (by decide +kernel)) (ji_rng1 (by rfl) n_range (j_call F__law_take (C.hr.mono l__law_take) C.tk (by rfl) (ja_cons (j_v 0) (ja_cons j_int ja_nil)))) (blkOk_by (N := N__law_step) (sc := defScope s__law_step) (own := [("_law_k", 5)]) (by decide +kernel)) (fun _ _ _ _ _ => (jg_nm 5 C.hN rfl (by first | exact Or.inl rfl | exact Or.inr rfl) (by decide))) (fun _ _ _ _ _ => jts_nil) (fun _ _ _ _ _ => (j_call F__law_step (C.hr.mono l__law_step) takesN (by rfl) (ja_cons (j_v 0) (ja_cons (j_v 1) (ja_cons (j_sub (j_v 2) j_int) ja_nil))))))
  (jss_one (js_ret (j_tup (ja_cons j_str (ja_cons (j_v 3) (ja_cons (j_call F__law_of (C.hr.mono l__law_of) C.tk (by rfl) (ja_cons (j_v 0) (ja_cons (j_list (k := 0) (ja_cons (j_tupOf (by rfl) n_tuple (j_v 4)) (ja_cons (j_v 4) ja_nil))) ja_nil))) ja_nil)))))))))
abbrev N__law_rounds : List Str := ["_law_draw", "_law_size", "_law_most", "_law_deep", "_law_k"]
theorem sc__law_rounds : FnScope N__law_rounds ["_law_draw", "_law_size", "_law_most", "_law_deep"] (defScope s__law_rounds) := ⟨rfl, rfl, rfl, by decide +kernel, rfl, by decide +kernel, by decide +kernel⟩
theorem js__law_rounds {P : Program} {w : World} {K : PySem.W.Frag} {mg : Str → Option Value} {base : Heap} {k : Nat} (n_range : mg "range" = none) {p__law_step : G.Spec} {k__law_step n__law_step : Nat} (F__law_step : Fn P w K mg base "_law_step" k__law_step n__law_step p__law_step) (l__law_step : k__law_step ≤ k) {p__law_take : G.Spec} {k__law_take n__law_take : Nat} (F__law_take : Fn P w K mg base "_law_take" k__law_take n__law_take p__law_take) (l__law_take : k__law_take ≤ k) {f : Addr} {cdv : Value} {A : Around} {outer : List Env} {s : Shared} {H : Hp} {E : XK}
    (C : Ct (cxOf (L2N.CX P w) P w K mg base N__law_rounds "_law_rounds" (defScope s__law_rounds) f cdv A outer s H E) (wxOf E) k) :
    JSs (cxOf (L2N.CX P w) P w K mg base N__law_rounds "_law_rounds" (defScope s__law_rounds) f cdv A outer s H E) (wxOf E) (defBody s__law_rounds) (c_l_rounds p__law_step p__law_take) :=
  (jss_one (js_ret (j_comp false (own := [("_law_k", 4)]) rfl C.hN (ji_rng1 (by rfl) n_range (j_call F__law_take (C.hr.mono l__law_take) C.tk (by rfl) (ja_cons (j_v 0) (ja_cons (j_add (j_v 2) j_int) ja_nil)))) (blkOk_by (N := N__law_rounds) (sc := defScope s__law_rounds) (own := [("_law_k", 4)]) (by decide +kernel)) (fun _ _ _ _ _ => (jg_nm 4 C.hN rfl (by first | exact Or.inl rfl | exact Or.inr rfl) (by decide))) (fun _ _ _ _ _ => jts_nil) (fun _ _ _ _ _ => (j_call F__law_step (C.hr.mono l__law_step) takesN (by rfl) (ja_cons (j_v 0) (ja_cons (j_v 1) (ja_cons (j_v 3) ja_nil))))))))
abbrev N__law_written : List Str := ["_law_steps", "_law_total", "_law_step_here"]
theorem sc__law_written : FnScope N__law_written ["_law_steps"] (defScope s__law_written) := ⟨rfl, rfl, rfl, by decide +kernel, rfl, by decide +kernel, by decide +kernel⟩
theorem js__law_written {P : Program} {w : World} {K : PySem.W.Frag} {mg : Str → Option Value} {base : Heap} {k : Nat} (n_int : mg "int" = none) (n_isinstance : mg "isinstance" = none) {p__law_written : G.Spec} {k__law_written n__law_written : Nat} (F__law_written : Fn P w K mg base "_law_written" k__law_written n__law_written p__law_written) (l__law_written : k__law_written ≤ k) {f : Addr} {cdv : Value} {A : Around} {outer : List Env} {s : Shared} {H : Hp} {E : XK}
    (C : Ct (cxOf (L2N.CX P w) P w K mg base N__law_written "_law_written" (defScope s__law_written) f cdv A outer s H E) (wxOf E) k) :
    JSs (cxOf (L2N.CX P w) P w K mg base N__law_written "_law_written" (defScope s__law_written) f cdv A outer s H E) (wxOf E) (defBody s__law_written) (c_l_written p__law_written) :=
  (jss_cons (js_set 1 C.hN rfl (by first | exact Or.inl rfl | exact Or.inr rfl) j_int)
  (jss_cons (js_for (own := [2]) C.hp rfl (ji_seq (j_v 0)) (jg_nm 2 C.hN rfl (by first | exact Or.inl rfl | exact Or.inr rfl) (by decide)) (jss_cons (js_set 1 C.hN rfl (by first | exact Or.inl rfl | exact Or.inr rfl) (j_add (j_v 1) j_int))
  (jss_one (js_if (jt_w (jw_and (jt_not (jt_val (j_isi (t := .int) (by rfl) n_isinstance (by rfl) n_int boot_intG (j_v 2)))) (jw_and1 (jt_eq C.hu (j_ix (j_v 2) j_int) j_str)))) (jss_one (js_set 1 C.hN rfl (by first | exact Or.inl rfl | exact Or.inr rfl) (j_add (j_v 1) (j_call F__law_written (C.hr.mono l__law_written) C.tk (by rfl) (ja_cons (j_ix (j_v 2) j_int) ja_nil))))) jss_nil))))
  (jss_one (js_ret (j_v 1)))))
abbrev N__law_plain : List Str := ["_law_steps", "_law_found", "_law_step_here", "_law_inner"]
theorem sc__law_plain : FnScope N__law_plain ["_law_steps"] (defScope s__law_plain) := ⟨rfl, rfl, rfl, by decide +kernel, rfl, by decide +kernel, by decide +kernel⟩
theorem js__law_plain {P : Program} {w : World} {K : PySem.W.Frag} {mg : Str → Option Value} {base : Heap} {k : Nat} (n_int : mg "int" = none) (n_isinstance : mg "isinstance" = none) (n_tuple : mg "tuple" = none) {p__law_plain : G.Spec} {k__law_plain n__law_plain : Nat} (F__law_plain : Fn P w K mg base "_law_plain" k__law_plain n__law_plain p__law_plain) (l__law_plain : k__law_plain ≤ k) {f : Addr} {cdv : Value} {A : Around} {outer : List Env} {s : Shared} {H : Hp} {E : XK}
    (C : Ct (cxOf (L2N.CX P w) P w K mg base N__law_plain "_law_plain" (defScope s__law_plain) f cdv A outer s H E) (wxOf E) k) :
    JSs (cxOf (L2N.CX P w) P w K mg base N__law_plain "_law_plain" (defScope s__law_plain) f cdv A outer s H E) (wxOf E) (defBody s__law_plain) (c_l_plain p__law_plain) :=
  (jss_cons (js_set 1 C.hN rfl (by first | exact Or.inl rfl | exact Or.inr rfl) (j_listM ja_nil))
  (jss_cons (js_for (own := [2]) C.hp rfl (ji_seq (j_v 0)) (jg_nm 2 C.hN rfl (by first | exact Or.inl rfl | exact Or.inr rfl) (by decide)) (jss_cons (js_set 3 C.hN rfl (by first | exact Or.inl rfl | exact Or.inr rfl) (je_or (j_isi (t := .int) (by rfl) n_isinstance (by rfl) n_int boot_intG (j_v 2)) (je_one (j_eq C.hu (j_ix (j_v 2) j_int) j_str))))
  (jss_one (js_exp (j_append (j_v 1) (je_if (jt_val (j_v 3)) (j_v 2) (j_tup (ja_cons j_str (ja_cons (j_ix (j_v 2) j_int) (ja_cons (j_tupOf (by rfl) n_tuple (j_call F__law_plain (C.hr.mono l__law_plain) C.tk (by rfl) (ja_cons (j_ix (j_v 2) j_int) ja_nil))) ja_nil))))))))))
  (jss_frz 1 (jss_one (js_ret (j_v 1))))))
def c_l_text_1 (p__law_text : G.Spec) : S := (.asg (.nm 1) (.app sListM .nil))
def c_l_text_2 (p__law_text : G.Spec) : S := (.exp (.meth chkL sAppend (.v 1) (.cons (.app sStrI (.cons (.v 2) .nil)) .nil)))
def c_l_text_3 (p__law_text : G.Spec) : S := (.exp (.meth chkL sAppend (.v 1) (.cons (.app sAdd (.cons (.app sAdd (.cons (.app sStrI (.cons (.app sIx (.cons (.v 2) (.cons (.c (.int 1)) .nil))) .nil)) (.cons (.c (.str ">")) .nil))) (.cons (.app sStrI (.cons (.app sIx (.cons (.v 2) (.cons (.c (.int 2)) .nil))) .nil)) .nil))) .nil)))
def c_l_text_4 (p__law_text : G.Spec) : S := (.exp (.meth chkL sAppend (.v 1) (.cons (.app sAdd (.cons (.app sAdd (.cons (.app sAdd (.cons (.app sStrI (.cons (.app sIx (.cons (.v 2) (.cons (.c (.int 1)) .nil))) .nil)) (.cons (.c (.str "*(")) .nil))) (.cons (.app p__law_text (.cons (.app sIx (.cons (.v 2) (.cons (.c (.int 2)) .nil))) .nil)) .nil))) (.cons (.c (.str ")")) .nil))) .nil)))
def c_l_text_5 (p__law_text : G.Spec) : S := (.ite (.app sEq (.cons (.app sIx (.cons (.v 2) (.cons (.c (.int 0)) .nil))) (.cons (.c (.str "link")) .nil))) (c_l_text_3 p__law_text) (c_l_text_4 p__law_text))
def c_l_text_6 (p__law_text : G.Spec) : S := (.ite (.app (sIsi .int) (.cons (.v 2) .nil)) (c_l_text_2 p__law_text) (c_l_text_5 p__law_text))
def c_l_text_7 (p__law_text : G.Spec) : S := (.fr (.nm 2) iSeq (.cons (.v 0) .nil) (c_l_text_6 p__law_text))
def c_l_text_8 (p__law_text : G.Spec) : S := (.ret (.meth chkS sJoin (.c (.str " ")) (.cons (.v 1) .nil)))
def c_l_text (p__law_text : G.Spec) : S := (.seq (c_l_text_1 p__law_text) (.seq (c_l_text_7 p__law_text) (c_l_text_8 p__law_text)))
abbrev N__law_text : List Str := ["_law_steps", "_law_found", "_law_step_here"]
theorem sc__law_text : FnScope N__law_text ["_law_steps"] (defScope s__law_text) := ⟨rfl, rfl, rfl, by decide +kernel, rfl, by decide +kernel, by decide +kernel⟩
theorem js__law_text {P : Program} {w : World} {K : PySem.W.Frag} {mg : Str → Option Value} {base : Heap} {k : Nat} (n_int : mg "int" = none) (n_isinstance : mg "isinstance" = none) (n_str : mg "str" = none) {p__law_text : G.Spec} {k__law_text n__law_text : Nat} (F__law_text : Fn P w K mg base "_law_text" k__law_text n__law_text p__law_text) (l__law_text : k__law_text ≤ k) {f : Addr} {cdv : Value} {A : Around} {outer : List Env} {s : Shared} {H : Hp} {E : XK}
    (C : Ct (cxOf (L2N.CX P w) P w K mg base N__law_text "_law_text" (defScope s__law_text) f cdv A outer s H E) (wxOf E) k) :
    JSs (cxOf (L2N.CX P w) P w K mg base N__law_text "_law_text" (defScope s__law_text) f cdv A outer s H E) (wxOf E) (defBody s__law_text) (c_l_text p__law_text) :=
  (jss_cons (js_set 1 C.hN rfl (by first | exact Or.inl rfl | exact Or.inr rfl) (j_listM ja_nil))
  (jss_cons (js_for (own := [2]) C.hp rfl (ji_seq (j_v 0)) (jg_nm 2 C.hN rfl (by first | exact Or.inl rfl | exact Or.inr rfl) (by decide)) (jss_one (js_if (jt_val (j_isi (t := .int) (by rfl) n_isinstance (by rfl) n_int boot_intG (j_v 2))) (jss_one (js_exp (j_append (j_v 1) (j_strI (by rfl) n_str (j_v 2))))) (jss_one (js_if (jt_eq C.hu (j_ix (j_v 2) j_int) j_str) (jss_one (js_exp (j_append (j_v 1) (j_add (j_add (j_strI (by rfl) n_str (j_ix (j_v 2) j_int)) j_str) (j_strI (by rfl) n_str (j_ix (j_v 2) j_int)))))) (jss_one (js_exp (j_append (j_v 1) (j_add (j_add (j_add (j_strI (by rfl) n_str (j_ix (j_v 2) j_int)) j_str) (j_call F__law_text (C.hr.mono l__law_text) C.tk (by rfl) (ja_cons (j_ix (j_v 2) j_int) ja_nil))) j_str)))))))))
  (jss_one (js_ret (j_join j_str (j_v 1))))))
abbrev N_Reader___init__ : List Str := ["self", "text"]
theorem sc_Reader___init__ : FnScope N_Reader___init__ ["self", "text"] (defScope s_Reader___init__) := ⟨rfl, rfl, rfl, by decide +kernel, rfl, by decide +kernel, by decide +kernel⟩
theorem js_Reader___init__ {P : Program} {w : World} {K : PySem.W.Frag} {mg : Str → Option Value} {base : Heap} {k : Nat} {cO : Addr} (CO : Cls K cO) (NA_at : NoAttr K cO "at") (NA_nesting : NoAttr K cO "nesting") (NA_text : NoAttr K cO "text") {f : Addr} {cdv : Value} {A : Around} {outer : List Env} {s : Shared} {H : Hp} {E : XK}
    (C : Ct (cxOf (L2N.CX P w) P w K mg base N_Reader___init__ "Reader.__init__" (defScope s_Reader___init__) f cdv A outer s H E) (wxOf E) k) :
    JSs (cxOf (L2N.CX P w) P w K mg base N_Reader___init__ "Reader.__init__" (defScope s_Reader___init__) f cdv A outer s H E) (wxOf E) (defBody s_Reader___init__) (c_Reader___init__ cO) :=
  (jss_one (js_setF3 CO NA_text NA_at NA_nesting rfl (j_tup (ja_cons (j_v 1) (ja_cons j_int (ja_cons j_int ja_nil)))) 0))
abbrev N_Reader_ahead : List Str := ["self"]
theorem sc_Reader_ahead : FnScope N_Reader_ahead ["self"] (defScope s_Reader_ahead) := ⟨rfl, rfl, rfl, by decide +kernel, rfl, by decide +kernel, by decide +kernel⟩
theorem js_Reader_ahead {P : Program} {w : World} {K : PySem.W.Frag} {mg : Str → Option Value} {base : Heap} {k : Nat} {cO : Addr} (CO : Cls K cO) (NA_at : NoAttr K cO "at") (NA_text : NoAttr K cO "text") {f : Addr} {cdv : Value} {A : Around} {outer : List Env} {s : Shared} {H : Hp} {E : XK}
    (C : Ct (cxOf (L2N.CX P w) P w K mg base N_Reader_ahead "Reader.ahead" (defScope s_Reader_ahead) f cdv A outer s H E) (wxOf E) k) :
    JSs (cxOf (L2N.CX P w) P w K mg base N_Reader_ahead "Reader.ahead" (defScope s_Reader_ahead) f cdv A outer s H E) (wxOf E) (defBody s_Reader_ahead) (c_Reader_ahead cO) :=
  (jss_one (js_ret (j_cutA (j_fld CO NA_text (j_v 0)) (j_fld CO NA_at (j_v 0)) (j_add (j_fld CO NA_at (j_v 0)) j_int))))
abbrev N_Reader_read_number : List Str := ["self", "begin", "number"]
theorem sc_Reader_read_number : FnScope N_Reader_read_number ["self"] (defScope s_Reader_read_number) := ⟨rfl, rfl, rfl, by decide +kernel, rfl, by decide +kernel, by decide +kernel⟩
theorem js_Reader_read_number {P : Program} {w : World} {K : PySem.W.Frag} {mg : Str → Option Value} {base : Heap} {k : Nat} {cO : Addr} (CO : Cls K cO) (NA_at : NoAttr K cO "at") (NA_text : NoAttr K cO "text") {p_Reader_ahead : G.Spec} {k_Reader_ahead n_Reader_ahead : Nat} (F_Reader_ahead : FnM P w K mg base cO "ahead" k_Reader_ahead n_Reader_ahead p_Reader_ahead) (l_Reader_ahead : k_Reader_ahead ≤ k) {p_parse_number : G.Spec} {k_parse_number n_parse_number : Nat} (F_parse_number : Fn P w K mg base "parse_number" k_parse_number n_parse_number p_parse_number) (l_parse_number : k_parse_number ≤ k) (XC_ParseError : Xc P w K mg base "ParseError" "pos") (l_rse : 2 ≤ k) {f : Addr} {cdv : Value} {A : Around} {outer : List Env} {s : Shared} {H : Hp} {E : XK}
    (C : Ct (cxOf (L2N.CX P w) P w K mg base N_Reader_read_number "Reader.read_number" (defScope s_Reader_read_number) f cdv A outer s H E) (wxOf E) k) :
    JSs (cxOf (L2N.CX P w) P w K mg base N_Reader_read_number "Reader.read_number" (defScope s_Reader_read_number) f cdv A outer s H E) (wxOf E) (defBody s_Reader_read_number) (c_Reader_read_numberX cO p_Reader_ahead p_parse_number) :=
  (jss_cons (js_set 1 C.hN rfl (by first | exact Or.inl rfl | exact Or.inr rfl) (j_fld CO NA_at (j_v 0)))
  (jss_cons (js_while C.hp (jt_w (jw_and (jt_ne C.hu (j_meth0 F_Reader_ahead (C.hr.mono l_Reader_ahead) C.tk (j_v 0)) j_str) (jw_and1 (jt_notInStr (j_meth0 F_Reader_ahead (C.hr.mono l_Reader_ahead) C.tk (j_v 0)) j_str)))) (jss_one (js_augF CO NA_at (j_v 0))))
  (jss_cons (js_set 2 C.hN rfl (by first | exact Or.inl rfl | exact Or.inr rfl) (j_call F_parse_number (C.hr.mono l_parse_number) C.tk (by rfl) (ja_cons (j_cutA (j_fld CO NA_text (j_v 0)) (j_v 1) (j_fld CO NA_at (j_v 0))) ja_nil)))
  (jss_cons (js_if (jt_isN (j_v 2) j_non) (jss_one (js_raise XC_ParseError (C.hr.mono l_rse) C.tk C.hc (by rfl) j_int)) jss_nil)
  (jss_one (js_ret (j_v 2)))))))
abbrev N_Reader_expect : List Str := ["self", "sign"]
theorem sc_Reader_expect : FnScope N_Reader_expect ["self", "sign"] (defScope s_Reader_expect) := ⟨rfl, rfl, rfl, by decide +kernel, rfl, by decide +kernel, by decide +kernel⟩
theorem js_Reader_expect {P : Program} {w : World} {K : PySem.W.Frag} {mg : Str → Option Value} {base : Heap} {k : Nat} {cO : Addr} (CO : Cls K cO) (NA_at : NoAttr K cO "at") {p_Reader_ahead : G.Spec} {k_Reader_ahead n_Reader_ahead : Nat} (F_Reader_ahead : FnM P w K mg base cO "ahead" k_Reader_ahead n_Reader_ahead p_Reader_ahead) (l_Reader_ahead : k_Reader_ahead ≤ k) (XC_ParseError : Xc P w K mg base "ParseError" "pos") (l_rse : 2 ≤ k) {f : Addr} {cdv : Value} {A : Around} {outer : List Env} {s : Shared} {H : Hp} {E : XK}
    (C : Ct (cxOf (L2N.CX P w) P w K mg base N_Reader_expect "Reader.expect" (defScope s_Reader_expect) f cdv A outer s H E) (wxOf E) k) :
    JSs (cxOf (L2N.CX P w) P w K mg base N_Reader_expect "Reader.expect" (defScope s_Reader_expect) f cdv A outer s H E) (wxOf E) (defBody s_Reader_expect) (c_Reader_expectX cO p_Reader_ahead) :=
  (jss_cons (js_if (jt_ne C.hu (j_meth0 F_Reader_ahead (C.hr.mono l_Reader_ahead) C.tk (j_v 0)) (j_v 1)) (jss_one (js_raise XC_ParseError (C.hr.mono l_rse) C.tk C.hc (by rfl) j_int)) jss_nil)
  (jss_one (js_augF CO NA_at (j_v 0))))
abbrev N_Reader_read_step : List Str := ["self", "number", "steps"]
theorem sc_Reader_read_step : FnScope N_Reader_read_step ["self"] (defScope s_Reader_read_step) := ⟨rfl, rfl, rfl, by decide +kernel, rfl, by decide +kernel, by decide +kernel⟩
theorem js_Reader_read_step {P : Program} {w : World} {K : PySem.W.Frag} {mg : Str → Option Value} {base : Heap} {k : Nat} (n_tuple : mg "tuple" = none) (m_MAX_NESTING : ∃ t, mg "MAX_NESTING" = some (.int 4 t)) {cO : Addr} (CO : Cls K cO) (NA_nesting : NoAttr K cO "nesting") {p_Reader_ahead : G.Spec} {k_Reader_ahead n_Reader_ahead : Nat} (F_Reader_ahead : FnM P w K mg base cO "ahead" k_Reader_ahead n_Reader_ahead p_Reader_ahead) (l_Reader_ahead : k_Reader_ahead ≤ k) {p_Reader_expect : G.Spec} {k_Reader_expect n_Reader_expect : Nat} (F_Reader_expect : FnM P w K mg base cO "expect" k_Reader_expect n_Reader_expect p_Reader_expect) (l_Reader_expect : k_Reader_expect ≤ k) {p_Reader_read_number : G.Spec} {k_Reader_read_number n_Reader_read_number : Nat} (F_Reader_read_number : FnM P w K mg base cO "read_number" k_Reader_read_number n_Reader_read_number p_Reader_read_number) (l_Reader_read_number : k_Reader_read_number ≤ k) {p_Reader_read_steps__M : G.Spec} {k_Reader_read_steps__M n_Reader_read_steps__M : Nat} (F_Reader_read_steps__M : FnM P w K mg base cO "read_steps" k_Reader_read_steps__M n_Reader_read_steps__M p_Reader_read_steps__M) (l_Reader_read_steps__M : k_Reader_read_steps__M ≤ k) (XC_ParseError : Xc P w K mg base "ParseError" "pos") (l_rse : 2 ≤ k) {f : Addr} {cdv : Value} {A : Around} {outer : List Env} {s : Shared} {H : Hp} {E : XK}
    (C : Ct (cxOf (L2N.CX P w) P w K mg base N_Reader_read_step "Reader.read_step" (defScope s_Reader_read_step) f cdv A outer s H E) (wxOf E) k) :
    JSs (cxOf (L2N.CX P w) P w K mg base N_Reader_read_step "Reader.read_step" (defScope s_Reader_read_step) f cdv A outer s H E) (wxOf E) (defBody s_Reader_read_step) (c_Reader_read_stepX cO p_Reader_ahead p_Reader_expect p_Reader_read_number p_Reader_read_steps__M) :=
  (jss_cons (js_set 1 C.hN rfl (by first | exact Or.inl rfl | exact Or.inr rfl) (j_meth0 F_Reader_read_number (C.hr.mono l_Reader_read_number) C.tk (j_v 0)))
  (jss_cons (js_if (jt_eq C.hu (j_meth0 F_Reader_ahead (C.hr.mono l_Reader_ahead) C.tk (j_v 0)) j_str) (jss_cons (js_exp (j_meth F_Reader_expect (C.hr.mono l_Reader_expect) C.tk (j_v 0) (ja_cons j_str ja_nil)))
  (jss_one (js_ret (j_tup (ja_cons j_str (ja_cons (j_v 1) (ja_cons (j_meth0 F_Reader_read_number (C.hr.mono l_Reader_read_number) C.tk (j_v 0)) ja_nil))))))) jss_nil)
  (jss_cons (js_if (jt_ne C.hu (j_meth0 F_Reader_ahead (C.hr.mono l_Reader_ahead) C.tk (j_v 0)) j_str) (jss_one (js_ret (j_v 1))) jss_nil)
  (jss_cons (js_if (jt_eq C.hu (j_fld CO NA_nesting (j_v 0)) (j_gint (by rfl) m_MAX_NESTING)) (jss_one (js_raise XC_ParseError (C.hr.mono l_rse) C.tk C.hc (by rfl) j_int)) jss_nil)
  (jss_cons (js_augF CO NA_nesting (j_v 0))
  (jss_cons (js_exp (j_meth F_Reader_expect (C.hr.mono l_Reader_expect) C.tk (j_v 0) (ja_cons j_str ja_nil)))
  (jss_cons (js_exp (j_meth F_Reader_expect (C.hr.mono l_Reader_expect) C.tk (j_v 0) (ja_cons j_str ja_nil)))
  (jss_cons (js_set 2 C.hN rfl (by first | exact Or.inl rfl | exact Or.inr rfl) (j_meth0 F_Reader_read_steps__M (C.hr.mono l_Reader_read_steps__M) C.tk (j_v 0)))
  (jss_cons (js_exp (j_meth F_Reader_expect (C.hr.mono l_Reader_expect) C.tk (j_v 0) (ja_cons j_str ja_nil)))
  (jss_cons (js_augFS CO NA_nesting (j_v 0))
  (jss_one (js_ret (j_tup (ja_cons j_str (ja_cons (j_v 1) (ja_cons (j_tupOf (by rfl) n_tuple (j_v 2)) ja_nil))))))))))))))))
abbrev N_Reader_read_steps : List Str := ["self", "result"]
theorem sc_Reader_read_steps : FnScope N_Reader_read_steps ["self"] (defScope s_Reader_read_steps) := ⟨rfl, rfl, rfl, by decide +kernel, rfl, by decide +kernel, by decide +kernel⟩
theorem js_Reader_read_steps {P : Program} {w : World} {K : PySem.W.Frag} {mg : Str → Option Value} {base : Heap} {k : Nat} {cO : Addr} (CO : Cls K cO) {p_Reader_ahead : G.Spec} {k_Reader_ahead n_Reader_ahead : Nat} (F_Reader_ahead : FnM P w K mg base cO "ahead" k_Reader_ahead n_Reader_ahead p_Reader_ahead) (l_Reader_ahead : k_Reader_ahead ≤ k) {p_Reader_expect : G.Spec} {k_Reader_expect n_Reader_expect : Nat} (F_Reader_expect : FnM P w K mg base cO "expect" k_Reader_expect n_Reader_expect p_Reader_expect) (l_Reader_expect : k_Reader_expect ≤ k) {p_Reader_read_step : G.Spec} {k_Reader_read_step n_Reader_read_step : Nat} (F_Reader_read_step : FnM P w K mg base cO "read_step" k_Reader_read_step n_Reader_read_step p_Reader_read_step) (l_Reader_read_step : k_Reader_read_step ≤ k) {f : Addr} {cdv : Value} {A : Around} {outer : List Env} {s : Shared} {H : Hp} {E : XK}
    (C : Ct (cxOf (L2N.CX P w) P w K mg base N_Reader_read_steps "Reader.read_steps" (defScope s_Reader_read_steps) f cdv A outer s H E) (wxOf E) k) :
    JSs (cxOf (L2N.CX P w) P w K mg base N_Reader_read_steps "Reader.read_steps" (defScope s_Reader_read_steps) f cdv A outer s H E) (wxOf E) (defBody s_Reader_read_steps) (cM_Reader_read_steps cO p_Reader_ahead p_Reader_expect p_Reader_read_step) :=
  (jss_cons (js_set 1 C.hN rfl (by first | exact Or.inl rfl | exact Or.inr rfl) (j_listM ja_nil))
  (jss_cons (js_if (jt_in (j_meth0 F_Reader_ahead (C.hr.mono l_Reader_ahead) C.tk (j_v 0)) (j_tup (ja_cons j_str (ja_cons j_str ja_nil)))) (jss_one (js_ret (j_v 1))) jss_nil)
  (jss_cons (js_exp (j_append (j_v 1) (j_meth0 F_Reader_read_step (C.hr.mono l_Reader_read_step) C.tk (j_v 0))))
  (jss_cons (js_while C.hp (jt_eq C.hu (j_meth0 F_Reader_ahead (C.hr.mono l_Reader_ahead) C.tk (j_v 0)) j_str) (jss_cons (js_exp (j_meth F_Reader_expect (C.hr.mono l_Reader_expect) C.tk (j_v 0) (ja_cons j_str ja_nil)))
  (jss_one (js_exp (j_append (j_v 1) (j_meth0 F_Reader_read_step (C.hr.mono l_Reader_read_step) C.tk (j_v 0)))))))
  (jss_one (js_ret (j_v 1)))))))
def c_law_1 (p__law_of : G.Spec) (p__law_plain : G.Spec) (p__law_rounds : G.Spec) (p__law_same : G.Spec) (p__law_start : G.Spec) (p__law_take : G.Spec) (p__law_text : G.Spec) (p__law_written : G.Spec) (p_format_history : G.Spec) (p_parse_history : G.Spec) (p_parse_history__M : G.Spec) : S := (.asg (.nm 1) (.app p__law_start (.cons (.v 0) .nil)))
def c_law_2 (p__law_of : G.Spec) (p__law_plain : G.Spec) (p__law_rounds : G.Spec) (p__law_same : G.Spec) (p__law_start : G.Spec) (p__law_take : G.Spec) (p__law_text : G.Spec) (p__law_written : G.Spec) (p_format_history : G.Spec) (p_parse_history : G.Spec) (p_parse_history__M : G.Spec) : S := (.asg (.nm 3) (.app p__law_rounds (.cons (.v 1) (.cons (.app p__law_of (.cons (.v 1) (.cons (.app sList (.cons (.c (.int 9)) (.cons (.app sPow (.cons (.c (.int 10)) (.cons (.c (.int 30)) .nil))) .nil))) .nil))) (.cons (.c (.int 6)) (.cons (.app sAdd (.cons (.c (.int 1)) (.cons (.app p__law_take (.cons (.v 1) (.cons (.c (.int 3)) .nil))) .nil))) .nil))))))
def c_law_3 (p__law_of : G.Spec) (p__law_plain : G.Spec) (p__law_rounds : G.Spec) (p__law_same : G.Spec) (p__law_start : G.Spec) (p__law_take : G.Spec) (p__law_text : G.Spec) (p__law_written : G.Spec) (p_format_history : G.Spec) (p_parse_history : G.Spec) (p_parse_history__M : G.Spec) : S := (.asg (.nm 5) (.app p__law_take (.cons (.v 1) (.cons (.app sAdd (.cons (.app sLen (.cons (.v 3) .nil)) (.cons (.c (.int 1)) .nil))) .nil))))
def c_law_4 (p__law_of : G.Spec) (p__law_plain : G.Spec) (p__law_rounds : G.Spec) (p__law_same : G.Spec) (p__law_start : G.Spec) (p__law_take : G.Spec) (p__law_text : G.Spec) (p__law_written : G.Spec) (p_format_history : G.Spec) (p_parse_history : G.Spec) (p_parse_history__M : G.Spec) : S := (.asg (.nm 4) (.app p__law_of (.cons (.v 1) (.cons (.app sList (.cons (.app sTup (.cons (.c (.str "link")) (.cons (.app p__law_take (.cons (.v 1) (.cons (.c (.int 99)) .nil))) (.cons (.app sSub (.cons (.c (.int 0)) (.cons (.app p__law_take (.cons (.v 1) (.cons (.c (.int 9)) .nil))) .nil))) .nil)))) (.cons (.app sSub (.cons (.c (.int 0)) (.cons (.app p__law_take (.cons (.v 1) (.cons (.app sPow (.cons (.c (.int 10)) (.cons (.c (.int 30)) .nil))) .nil))) .nil))) .nil))) .nil))))
def c_law_5 (p__law_of : G.Spec) (p__law_plain : G.Spec) (p__law_rounds : G.Spec) (p__law_same : G.Spec) (p__law_start : G.Spec) (p__law_take : G.Spec) (p__law_text : G.Spec) (p__law_written : G.Spec) (p_format_history : G.Spec) (p_parse_history : G.Spec) (p_parse_history__M : G.Spec) : S := (.asg (.nm 3) (.app sAdd (.cons (.app sAdd (.cons (.app sCutHi (.cons (.v 3) (.cons (.v 5) .nil))) (.cons (.app sList (.cons (.v 4) .nil)) .nil))) (.cons (.app sCutLo (.cons (.v 3) (.cons (.v 5) .nil))) .nil))))
def c_law_6 (p__law_of : G.Spec) (p__law_plain : G.Spec) (p__law_rounds : G.Spec) (p__law_same : G.Spec) (p__law_start : G.Spec) (p__law_take : G.Spec) (p__law_text : G.Spec) (p__law_written : G.Spec) (p_format_history : G.Spec) (p_parse_history : G.Spec) (p_parse_history__M : G.Spec) : S := (.fr (.nm 4) iRng1 (.cons (.app p__law_take (.cons (.v 1) (.cons (.c (.int 3)) .nil))) .nil) (.seq (c_law_3 p__law_of p__law_plain p__law_rounds p__law_same p__law_start p__law_take p__law_text p__law_written p_format_history p_parse_history p_parse_history__M) (.seq (c_law_4 p__law_of p__law_plain p__law_rounds p__law_same p__law_start p__law_take p__law_text p__law_written p_format_history p_parse_history p_parse_history__M) (c_law_5 p__law_of p__law_plain p__law_rounds p__law_same p__law_start p__law_take p__law_text p__law_written p_format_history p_parse_history p_parse_history__M))))
def c_law_7 (p__law_of : G.Spec) (p__law_plain : G.Spec) (p__law_rounds : G.Spec) (p__law_same : G.Spec) (p__law_start : G.Spec) (p__law_take : G.Spec) (p__law_text : G.Spec) (p__law_written : G.Spec) (p_format_history : G.Spec) (p_parse_history : G.Spec) (p_parse_history__M : G.Spec) : S := (.ite (.or (.app sGt (.cons (.app p__law_written (.cons (.v 3) .nil)) (.cons (.c (.int 100)) .nil))) (.app sGt (.cons (.app sLen (.cons (.app p__law_text (.cons (.v 3) .nil)) .nil)) (.cons (.c (.int 4000)) .nil)))) .cont .skip)
def c_law_8 (p__law_of : G.Spec) (p__law_plain : G.Spec) (p__law_rounds : G.Spec) (p__law_same : G.Spec) (p__law_start : G.Spec) (p__law_take : G.Spec) (p__law_text : G.Spec) (p__law_written : G.Spec) (p_format_history : G.Spec) (p_parse_history : G.Spec) (p_parse_history__M : G.Spec) : S := (.asg (.tup (.cons (.nm 6) (.cons (.nm 7) .nil))) (.app sTup (.cons (.app p__law_text (.cons (.v 3) .nil)) (.cons (.app p__law_plain (.cons (.v 3) .nil)) .nil))))
def c_law_9 (p__law_of : G.Spec) (p__law_plain : G.Spec) (p__law_rounds : G.Spec) (p__law_same : G.Spec) (p__law_start : G.Spec) (p__law_take : G.Spec) (p__law_text : G.Spec) (p__law_written : G.Spec) (p_format_history : G.Spec) (p_parse_history : G.Spec) (p_parse_history__M : G.Spec) : S := (.asg (.nm 9) (.app p_parse_history__M (.cons (.v 6) .nil)))
def c_law_10 (p__law_of : G.Spec) (p__law_plain : G.Spec) (p__law_rounds : G.Spec) (p__law_same : G.Spec) (p__law_start : G.Spec) (p__law_take : G.Spec) (p__law_text : G.Spec) (p__law_written : G.Spec) (p_format_history : G.Spec) (p_parse_history : G.Spec) (p_parse_history__M : G.Spec) : S := (.ret (.c (.bl false)))
def c_law_11 (p__law_of : G.Spec) (p__law_plain : G.Spec) (p__law_rounds : G.Spec) (p__law_same : G.Spec) (p__law_start : G.Spec) (p__law_take : G.Spec) (p__law_text : G.Spec) (p__law_written : G.Spec) (p_format_history : G.Spec) (p_parse_history : G.Spec) (p_parse_history__M : G.Spec) : S := (.ite (.app sNot (.cons (.app p__law_same (.cons (.app sList (.cons (.app p_format_history (.cons (.v 3) .nil)) (.cons (.v 9) .nil))) (.cons (.app sList (.cons (.v 6) (.cons (.v 7) .nil))) .nil))) .nil)) (c_law_10 p__law_of p__law_plain p__law_rounds p__law_same p__law_start p__law_take p__law_text p__law_written p_format_history p_parse_history p_parse_history__M) .skip)
def c_law_12 (p__law_of : G.Spec) (p__law_plain : G.Spec) (p__law_rounds : G.Spec) (p__law_same : G.Spec) (p__law_start : G.Spec) (p__law_take : G.Spec) (p__law_text : G.Spec) (p__law_written : G.Spec) (p_format_history : G.Spec) (p_parse_history : G.Spec) (p_parse_history__M : G.Spec) : S := (.exp (.meth chkL sAppend (.v 9) (.cons (.c (.int 0)) .nil)))
def c_law_13 (p__law_of : G.Spec) (p__law_plain : G.Spec) (p__law_rounds : G.Spec) (p__law_same : G.Spec) (p__law_start : G.Spec) (p__law_take : G.Spec) (p__law_text : G.Spec) (p__law_written : G.Spec) (p_format_history : G.Spec) (p_parse_history : G.Spec) (p_parse_history__M : G.Spec) : S := (.fr (.nm 8) iRng1 (.cons (.c (.int 2)) .nil) (.seq (c_law_9 p__law_of p__law_plain p__law_rounds p__law_same p__law_start p__law_take p__law_text p__law_written p_format_history p_parse_history p_parse_history__M) (.seq (c_law_11 p__law_of p__law_plain p__law_rounds p__law_same p__law_start p__law_take p__law_text p__law_written p_format_history p_parse_history p_parse_history__M) (c_law_12 p__law_of p__law_plain p__law_rounds p__law_same p__law_start p__law_take p__law_text p__law_written p_format_history p_parse_history p_parse_history__M))))
def c_law_14 (p__law_of : G.Spec) (p__law_plain : G.Spec) (p__law_rounds : G.Spec) (p__law_same : G.Spec) (p__law_start : G.Spec) (p__law_take : G.Spec) (p__law_text : G.Spec) (p__law_written : G.Spec) (p_format_history : G.Spec) (p_parse_history : G.Spec) (p_parse_history__M : G.Spec) : S := (.ret (.c (.bl false)))
def c_law_15 (p__law_of : G.Spec) (p__law_plain : G.Spec) (p__law_rounds : G.Spec) (p__law_same : G.Spec) (p__law_start : G.Spec) (p__law_take : G.Spec) (p__law_text : G.Spec) (p__law_written : G.Spec) (p_format_history : G.Spec) (p_parse_history : G.Spec) (p_parse_history__M : G.Spec) : S := (.ite (.app sNot (.cons (.app p__law_same (.cons (.app sList (.cons (.appk 0 1 [0] p_format_history .nil (.cons (.app sTupOf (.cons (.v 3) .nil)) .nil)) (.cons (.appk 0 1 [0] p_parse_history .nil (.cons (.v 6) .nil)) .nil))) (.cons (.app sList (.cons (.v 6) (.cons (.v 7) .nil))) .nil))) .nil)) (c_law_14 p__law_of p__law_plain p__law_rounds p__law_same p__law_start p__law_take p__law_text p__law_written p_format_history p_parse_history p_parse_history__M) .skip)
def c_law_16 (p__law_of : G.Spec) (p__law_plain : G.Spec) (p__law_rounds : G.Spec) (p__law_same : G.Spec) (p__law_start : G.Spec) (p__law_take : G.Spec) (p__law_text : G.Spec) (p__law_written : G.Spec) (p_format_history : G.Spec) (p_parse_history : G.Spec) (p_parse_history__M : G.Spec) : S := (.fr (.nm 2) iRng1 (.cons (.c (.int 5)) .nil) (.seq (c_law_2 p__law_of p__law_plain p__law_rounds p__law_same p__law_start p__law_take p__law_text p__law_written p_format_history p_parse_history p_parse_history__M) (.seq (c_law_6 p__law_of p__law_plain p__law_rounds p__law_same p__law_start p__law_take p__law_text p__law_written p_format_history p_parse_history p_parse_history__M) (.seq (c_law_7 p__law_of p__law_plain p__law_rounds p__law_same p__law_start p__law_take p__law_text p__law_written p_format_history p_parse_history p_parse_history__M) (.seq (c_law_8 p__law_of p__law_plain p__law_rounds p__law_same p__law_start p__law_take p__law_text p__law_written p_format_history p_parse_history p_parse_history__M) (.seq (c_law_13 p__law_of p__law_plain p__law_rounds p__law_same p__law_start p__law_take p__law_text p__law_written p_format_history p_parse_history p_parse_history__M) (c_law_15 p__law_of p__law_plain p__law_rounds p__law_same p__law_start p__law_take p__law_text p__law_written p_format_history p_parse_history p_parse_history__M)))))))
def c_law_17 (p__law_of : G.Spec) (p__law_plain : G.Spec) (p__law_rounds : G.Spec) (p__law_same : G.Spec) (p__law_start : G.Spec) (p__law_take : G.Spec) (p__law_text : G.Spec) (p__law_written : G.Spec) (p_format_history : G.Spec) (p_parse_history : G.Spec) (p_parse_history__M : G.Spec) : S := (.asg (.nm 10) (.app sTup (.cons (.c (.str "repeat")) (.cons (.c (.int 1)) (.cons (.app sTup (.cons (.app sTup (.cons (.c (.str "repeat")) (.cons (.c (.int 2)) (.cons (.app sTup (.cons (.app sTup (.cons (.c (.str "repeat")) (.cons (.c (.int 3)) (.cons (.app sTup (.cons (.app sTup (.cons (.c (.str "repeat")) (.cons (.app sPow (.cons (.c (.int 10)) (.cons (.c (.int 30)) .nil))) (.cons (.app sTup (.cons (.app sSub (.cons (.c (.int 0)) (.cons (.c (.int 5)) .nil))) .nil)) .nil)))) .nil)) .nil)))) .nil)) .nil)))) .nil)) .nil)))))
def c_law_18 (p__law_of : G.Spec) (p__law_plain : G.Spec) (p__law_rounds : G.Spec) (p__law_same : G.Spec) (p__law_start : G.Spec) (p__law_take : G.Spec) (p__law_text : G.Spec) (p__law_written : G.Spec) (p_format_history : G.Spec) (p_parse_history : G.Spec) (p_parse_history__M : G.Spec) : S := (.ret (.app p__law_same (.cons (.app sList (.cons (.app p_parse_history (.cons (.app p_format_history (.cons (.app sList (.cons (.v 10) .nil)) .nil)) .nil)) (.cons (.app p_parse_history (.cons (.c (.str "")) .nil)) (.cons (.app p_format_history (.cons (.app sList .nil) .nil)) .nil)))) (.cons (.app sList (.cons (.app sList (.cons (.v 10) .nil)) (.cons (.app sList .nil) (.cons (.c (.str "")) .nil)))) .nil))))
def c_law (p__law_of : G.Spec) (p__law_plain : G.Spec) (p__law_rounds : G.Spec) (p__law_same : G.Spec) (p__law_start : G.Spec) (p__law_take : G.Spec) (p__law_text : G.Spec) (p__law_written : G.Spec) (p_format_history : G.Spec) (p_parse_history : G.Spec) (p_parse_history__M : G.Spec) : S := (.seq (c_law_1 p__law_of p__law_plain p__law_rounds p__law_same p__law_start p__law_take p__law_text p__law_written p_format_history p_parse_history p_parse_history__M) (.seq (c_law_16 p__law_of p__law_plain p__law_rounds p__law_same p__law_start p__law_take p__law_text p__law_written p_format_history p_parse_history p_parse_history__M) (.seq (c_law_17 p__law_of p__law_plain p__law_rounds p__law_same p__law_start p__law_take p__law_text p__law_written p_format_history p_parse_history p_parse_history__M) (c_law_18 p__law_of p__law_plain p__law_rounds p__law_same p__law_start p__law_take p__law_text p__law_written p_format_history p_parse_history p_parse_history__M))))
abbrev N_law : List Str := ["_law_script", "_law_draw", "_law_turn", "_law_history_in", "_law_step_here", "_law_at", "_law_text_in", "_law_plain_here", "_law_again", "_law_found", "_law_deep"]
theorem sc_law : FnScope N_law ["_law_script"] (defScope s_law) := ⟨rfl, rfl, rfl, by decide +kernel, rfl, by decide +kernel, by decide +kernel⟩
theorem js_law {P : Program} {w : World} {K : PySem.W.Frag} {mg : Str → Option Value} {base : Heap} {k : Nat} (n_len : mg "len" = none) (n_range : mg "range" = none) (n_tuple : mg "tuple" = none) {p__law_of : G.Spec} {k__law_of n__law_of : Nat} (F__law_of : Fn P w K mg base "_law_of" k__law_of n__law_of p__law_of) (l__law_of : k__law_of ≤ k) {p__law_plain : G.Spec} {k__law_plain n__law_plain : Nat} (F__law_plain : Fn P w K mg base "_law_plain" k__law_plain n__law_plain p__law_plain) (l__law_plain : k__law_plain ≤ k) {p__law_rounds : G.Spec} {k__law_rounds n__law_rounds : Nat} (F__law_rounds : Fn P w K mg base "_law_rounds" k__law_rounds n__law_rounds p__law_rounds) (l__law_rounds : k__law_rounds ≤ k) {p__law_same : G.Spec} {k__law_same n__law_same : Nat} (F__law_same : Fn P w K mg base "_law_same" k__law_same n__law_same p__law_same) (l__law_same : k__law_same ≤ k) {p__law_start : G.Spec} {k__law_start n__law_start : Nat} (F__law_start : Fn P w K mg base "_law_start" k__law_start n__law_start p__law_start) (l__law_start : k__law_start ≤ k) {p__law_take : G.Spec} {k__law_take n__law_take : Nat} (F__law_take : Fn P w K mg base "_law_take" k__law_take n__law_take p__law_take) (l__law_take : k__law_take ≤ k) {p__law_text : G.Spec} {k__law_text n__law_text : Nat} (F__law_text : Fn P w K mg base "_law_text" k__law_text n__law_text p__law_text) (l__law_text : k__law_text ≤ k) {p__law_written : G.Spec} {k__law_written n__law_written : Nat} (F__law_written : Fn P w K mg base "_law_written" k__law_written n__law_written p__law_written) (l__law_written : k__law_written ≤ k) {p_format_history : G.Spec} {k_format_history n_format_history : Nat} (F_format_history : Fn P w K mg base "format_history" k_format_history n_format_history p_format_history) (l_format_history : k_format_history ≤ k) {p_parse_history : G.Spec} {k_parse_history n_parse_history : Nat} (F_parse_history : Fn P w K mg base "parse_history" k_parse_history n_parse_history p_parse_history) (l_parse_history : k_parse_history ≤ k) {p_parse_history__M : G.Spec} {k_parse_history__M n_parse_history__M : Nat} (F_parse_history__M : Fn P w K mg base "parse_history" k_parse_history__M n_parse_history__M p_parse_history__M) (l_parse_history__M : k_parse_history__M ≤ k) (K_format_history_0_history : FnK P w K mg base "format_history" k_format_history 0 ["history"] [0] p_format_history) (K_parse_history_0_text : FnK P w K mg base "parse_history" k_parse_history 0 ["text"] [0] p_parse_history) {f : Addr} {cdv : Value} {A : Around} {outer : List Env} {s : Shared} {H : Hp} {E : XK}
    (C : Ct (cxOf (L2N.CX P w) P w K mg base N_law "law" (defScope s_law) f cdv A outer s H E) (wxOf E) k) :
    JSs (cxOf (L2N.CX P w) P w K mg base N_law "law" (defScope s_law) f cdv A outer s H E) (wxOf E) (defBody s_law) (c_law p__law_of p__law_plain p__law_rounds p__law_same p__law_start p__law_take p__law_text p__law_written p_format_history p_parse_history p_parse_history__M) :=
  (jss_cons (js_set 1 C.hN rfl (by first | exact Or.inl rfl | exact Or.inr rfl) (j_call F__law_start (C.hr.mono l__law_start) C.tk (by rfl) (ja_cons (j_v 0) ja_nil)))
  (jss_cons (js_for (own := [2]) C.hp rfl (ji_rng1 (by rfl) n_range j_int) (jg_nm 2 C.hN rfl (by first | exact Or.inl rfl | exact Or.inr rfl) (by decide)) (jss_cons (js_set 3 C.hN rfl (by first | exact Or.inl rfl | exact Or.inr rfl) (j_call F__law_rounds (C.hr.mono l__law_rounds) C.tk (by rfl) (ja_cons (j_v 1) (ja_cons (j_call F__law_of (C.hr.mono l__law_of) C.tk (by rfl) (ja_cons (j_v 1) (ja_cons (j_list (k := 0) (ja_cons j_int (ja_cons (j_pow j_int j_int) ja_nil))) ja_nil))) (ja_cons j_int (ja_cons (j_add j_int (j_call F__law_take (C.hr.mono l__law_take) C.tk (by rfl) (ja_cons (j_v 1) (ja_cons j_int ja_nil)))) ja_nil))))))
  (jss_cons (js_for (own := [4]) C.hp rfl (ji_rng1 (by rfl) n_range (j_call F__law_take (C.hr.mono l__law_take) C.tk (by rfl) (ja_cons (j_v 1) (ja_cons j_int ja_nil)))) (jg_nm 4 C.hN rfl (by first | exact Or.inl rfl | exact Or.inr rfl) (by decide)) (jss_cons (js_set 5 C.hN rfl (by first | exact Or.inl rfl | exact Or.inr rfl) (j_call F__law_take (C.hr.mono l__law_take) C.tk (by rfl) (ja_cons (j_v 1) (ja_cons (j_add (j_len (by rfl) n_len (j_v 3)) j_int) ja_nil))))
  (jss_cons (js_set 4 C.hN rfl (by first | exact Or.inl rfl | exact Or.inr rfl) (j_call F__law_of (C.hr.mono l__law_of) C.tk (by rfl) (ja_cons (j_v 1) (ja_cons (j_list (k := 0) (ja_cons (j_tup (ja_cons j_str (ja_cons (j_call F__law_take (C.hr.mono l__law_take) C.tk (by rfl) (ja_cons (j_v 1) (ja_cons j_int ja_nil))) (ja_cons (j_sub j_int (j_call F__law_take (C.hr.mono l__law_take) C.tk (by rfl) (ja_cons (j_v 1) (ja_cons j_int ja_nil)))) ja_nil)))) (ja_cons (j_sub j_int (j_call F__law_take (C.hr.mono l__law_take) C.tk (by rfl) (ja_cons (j_v 1) (ja_cons (j_pow j_int j_int) ja_nil)))) ja_nil))) ja_nil))))
  (jss_one (js_set 3 C.hN rfl (by first | exact Or.inl rfl | exact Or.inr rfl) (j_add (j_add (j_cutHi (j_v 3) (j_v 5)) (j_list (k := 0) (ja_cons (j_v 4) ja_nil))) (j_cutLo (j_v 3) (j_v 5))))))))
  (jss_cons (js_if (jt_w (jw_or (jt_gt (j_call F__law_written (C.hr.mono l__law_written) C.tk (by rfl) (ja_cons (j_v 3) ja_nil)) j_int) (jw_or1 (jt_gt (j_len (by rfl) n_len (j_call F__law_text (C.hr.mono l__law_text) C.tk (by rfl) (ja_cons (j_v 3) ja_nil))) j_int)))) (jss_one js_cont) jss_nil)
  (jss_cons (js_par 6 7 rfl C.hN rfl rfl (by decide) rfl rfl (j_call F__law_text (C.hr.mono l__law_text) C.tk (by rfl) (ja_cons (j_v 3) ja_nil)) (j_call F__law_plain (C.hr.mono l__law_plain) C.tk (by rfl) (ja_cons (j_v 3) ja_nil)) (by rfl))
  (jss_cons (js_for (own := [8]) C.hp rfl (ji_rng1 (by rfl) n_range j_int) (jg_nm 8 C.hN rfl (by first | exact Or.inl rfl | exact Or.inr rfl) (by decide)) (jss_cons (js_set 9 C.hN rfl (by first | exact Or.inl rfl | exact Or.inr rfl) (j_call F_parse_history__M (C.hr.mono l_parse_history__M) C.tk (by rfl) (ja_cons (j_v 6) ja_nil)))
  (jss_cons (js_if (jt_not (jt_val (j_call F__law_same (C.hr.mono l__law_same) C.tk (by rfl) (ja_cons (j_list (k := 0) (ja_cons (j_call F_format_history (C.hr.mono l_format_history) C.tk (by rfl) (ja_cons (j_v 3) ja_nil)) (ja_cons (j_v 9) ja_nil))) (ja_cons (j_list (k := 0) (ja_cons (j_v 6) (ja_cons (j_v 7) ja_nil))) ja_nil))))) (jss_one (js_ret j_bl)) jss_nil)
  (jss_one (js_exp (j_append (j_v 9) j_int))))))
  (jss_one (js_if (jt_not (jt_val (j_call F__law_same (C.hr.mono l__law_same) C.tk (by rfl) (ja_cons (j_list (k := 0) (ja_cons (j_callk0 K_format_history_0_history (C.hr.mono l_format_history) C.tk (by rfl) (jk_cons (j_tupOf (by rfl) n_tuple (j_v 3)) jk_nil)) (ja_cons (j_callk0 K_parse_history_0_text (C.hr.mono l_parse_history) C.tk (by rfl) (jk_cons (j_v 6) jk_nil)) ja_nil))) (ja_cons (j_list (k := 0) (ja_cons (j_v 6) (ja_cons (j_v 7) ja_nil))) ja_nil))))) (jss_one (js_ret j_bl)) jss_nil))))))))
  (jss_cons (js_set 10 C.hN rfl (by first | exact Or.inl rfl | exact Or.inr rfl) (j_tup (ja_cons j_str (ja_cons j_int (ja_cons (j_tup (ja_cons (j_tup (ja_cons j_str (ja_cons j_int (ja_cons (j_tup (ja_cons (j_tup (ja_cons j_str (ja_cons j_int (ja_cons (j_tup (ja_cons (j_tup (ja_cons j_str (ja_cons (j_pow j_int j_int) (ja_cons (j_tup (ja_cons (j_sub j_int j_int) ja_nil)) ja_nil)))) ja_nil)) ja_nil)))) ja_nil)) ja_nil)))) ja_nil)) ja_nil)))))
  (jss_one (js_ret (j_call F__law_same (C.hr.mono l__law_same) C.tk (by rfl) (ja_cons (j_list (k := 0) (ja_cons (j_call F_parse_history (C.hr.mono l_parse_history) C.tk (by rfl) (ja_cons (j_call F_format_history (C.hr.mono l_format_history) C.tk (by rfl) (ja_cons (j_list (k := 0) (ja_cons (j_v 10) ja_nil)) ja_nil)) ja_nil)) (ja_cons (j_call F_parse_history (C.hr.mono l_parse_history) C.tk (by rfl) (ja_cons j_str ja_nil)) (ja_cons (j_call F_format_history (C.hr.mono l_format_history) C.tk (by rfl) (ja_cons (j_list (k := 0) ja_nil) ja_nil)) ja_nil)))) (ja_cons (j_list (k := 0) (ja_cons (j_list (k := 0) (ja_cons (j_v 10) ja_nil)) (ja_cons (j_list (k := 0) ja_nil) (ja_cons j_str ja_nil)))) ja_nil))))))))
end K50

namespace G
open PySem (Str)
open PySem.NumText
end G

namespace G
open PySem (Str)
open PySem.NumText
def isDg (c : Nat) : Bool := decide (48 ≤ c) && decide (c ≤ 57)
def dg (w : List Nat) : List Nat := if w.take 1 = [45] then w.drop 1 else w
/-- what parse_number tells of a word -/
def pnum (w : List Nat) : Option Int :=
  if 1 ≤ (dg w).length ∧ (dg w).length ≤ 31 ∧ (dg w).all isDg = true then
    (if (dg w).take 1 = [48] ∧ w ≠ [48] then none else some (if w.take 1 = [45] then -((digitsVal (dg w) : Nat) : Int) else ((digitsVal w : Nat) : Int)))
  else none
theorem all_dg {cs : List Nat} (h : cs.all isDg = true) : AllDigits cs := fun c hc => by
  have := List.all_eq_true.mp h c hc
  unfold isDg at this
  simp only [Bool.and_eq_true, decide_eq_true_eq] at this
  exact this
theorem numL_one : ∀ k : Nat, (TL.numL k).take 1 = [48] → k = 0 := by
  intro k
  induction k using Nat.strongRecOn with
  | _ k ih =>
    intro h
    by_cases z : k < 10
    · rw [TL.numL_lt z] at h
      simp at h
      exact h
    · rw [TL.numL_step (by omega)] at h
      have hn : (TL.numL (k / 10)) ≠ [] := TL.numL_ne _
      have h' : (TL.numL (k / 10)).take 1 = [48] := by
        cases e : TL.numL (k / 10) with
        | nil => exact (hn e).elim
        | cons c r => rw [e] at h; simpa using h
      have := ih (k / 10) (by omega) h'
      omega
end G

namespace G
open PySem (Str)
open PySem.NumText
end G

/-! GEv: expressions with one value that change nothing. -/
namespace G
def Ev (e : E) (σ : Sl) (cs : Cs) (d : D) : Prop := ∀ (Q : KD) (X : KX), Q d cs → wpE e σ cs Q X
def Evs (es : Es) (σ : Sl) (cs : Cs) (ds : List D) : Prop := ∀ (Q : List D → Cs → Prop) (X : KX), Q ds cs → wpEs es σ cs Q X
/-- an operation with one answer -/
def SpD (sp : Spec) (ds : List D) (cs : Cs) (d : D) : Prop := ∀ (Q : KD) (X : KX), Q d cs → sp ds cs Q X
section
variable {σ : Sl} {cs : Cs} {d d' : D} {ds : List D} {a b c e : E} {es : Es} {sp s1 s2 : Spec} {k k' : Bool}
theorem Ev.var {i : Nat} (h : getV σ i = some d) : Ev (.v i) σ cs d := fun Q X hQ => by rw [wpE_v, h]; exact hQ
theorem Ev.con : Ev (.c d) σ cs d := fun Q X hQ => by rw [wpE_c]; exact hQ
theorem Evs.nil : Evs .nil σ cs [] := fun Q X hQ => by rw [wpEs_nil]; exact hQ
theorem Evs.cons (h : Ev e σ cs d) (hs : Evs es σ cs ds) : Evs (.cons e es) σ cs (d :: ds) := fun Q X hQ => by rw [wpEs_cons]; exact h _ _ (hs _ _ hQ)
theorem Evs.one (h : Ev e σ cs d) : Evs (.cons e .nil) σ cs [d] := .cons h .nil
theorem Evs.two (h : Ev a σ cs d) (h' : Ev b σ cs d') : Evs (.cons a (.cons b .nil)) σ cs [d, d'] := .cons h (.one h')
theorem Evs.three {d2 : D} (h : Ev a σ cs d) (h' : Ev b σ cs d') (h2 : Ev c σ cs d2) : Evs (.cons a (.cons b (.cons c .nil))) σ cs [d, d', d2] := .cons h (.two h' h2)
theorem Ev.app (h : Evs es σ cs ds) (hs : SpD sp ds cs d) : Ev (.app sp es) σ cs d := fun Q X hQ => by rw [wpE_app]; exact h _ _ (hs _ _ hQ)
theorem wpE_or {Q : KD} {X : KX} : wpE (.or a b) σ cs Q X = wpE a σ cs (fun d cs' => match d with
    | .bl k => if k = true then Q (.bl true) cs' else wpE b σ cs' Q X
    | _ => False) X := by first | (rw [wpE]; congr 1) | rw [wpE]
theorem wpE_and {Q : KD} {X : KX} : wpE (.and a b) σ cs Q X = wpE a σ cs (fun d cs' => match d with
    | .bl k => if k = true then wpE b σ cs' Q X else Q (.bl false) cs'
    | _ => False) X := by first | (rw [wpE]; congr 1) | rw [wpE]
theorem Ev.or_t (h : Ev a σ cs (.bl true)) : Ev (.or a b) σ cs (.bl true) := fun Q X hQ => by rw [wpE_or]; exact h _ _ hQ
theorem Ev.or_f (h : Ev a σ cs (.bl false)) (hb : Ev b σ cs (.bl k)) : Ev (.or a b) σ cs (.bl k) := fun Q X hQ => by rw [wpE_or]; exact h _ _ (hb _ _ hQ)
theorem Ev.and_f (h : Ev a σ cs (.bl false)) : Ev (.and a b) σ cs (.bl false) := fun Q X hQ => by rw [wpE_and]; exact h _ _ hQ
theorem Ev.and_t (h : Ev a σ cs (.bl true)) (hb : Ev b σ cs (.bl k)) : Ev (.and a b) σ cs (.bl k) := fun Q X hQ => by rw [wpE_and]; exact h _ _ (hb _ _ hQ)
/-- `or` and `and` of any two -/
theorem Ev.or (h : Ev a σ cs (.bl k)) (hb : k = false → Ev b σ cs (.bl k')) : Ev (.or a b) σ cs (.bl (k || k')) := by
  cases k with
  | true => exact .or_t h
  | false => exact .or_f h (hb rfl)
theorem Ev.and (h : Ev a σ cs (.bl k)) (hb : k = true → Ev b σ cs (.bl k')) : Ev (.and a b) σ cs (.bl (k && k')) := by
  cases k with
  | true => exact .and_t h (hb rfl)
  | false => exact .and_f h
theorem Ev.chain {x y z : D} (ha : Ev a σ cs x) (hb : Ev b σ cs y) (h1 : SpD s1 [x, y] cs (.bl k)) (hc : k = true → Ev c σ cs z ∧ SpD s2 [y, z] cs (.bl k')) : Ev (.chain s1 s2 a b c) σ cs (.bl (k && k')) := fun Q X hQ => by
  simp only [wpE]
  refine ha _ _ (hb _ _ (h1 _ _ ?_))
  cases k with
  | true => exact (hc rfl).1 _ _ ((hc rfl).2 _ _ hQ)
  | false => exact hQ
theorem Ev.not (h : Ev a σ cs (.bl k)) : Ev (.app sNot (.cons a .nil)) σ cs (.bl (!k)) := .app (.one h) fun Q X hQ => hQ
theorem wpS_seq {s t : S} {K : Ends} (h : wpS s σ cs { nx := fun σ' cs' => wpS t σ' cs' K, bk := K.bk, ct := K.ct, rt := K.rt, ex := K.ex }) : wpS (.seq s t) σ cs K := by rw [wpS]; exact h
theorem wpS_ret {K : Ends} (h : Ev e σ cs d) (hK : K.rt d cs) : wpS (.ret e) σ cs K := by
  rw [wpS]
  exact h _ _ hK
end
end G

/-! GStoA: named forests: sealed dicts; names; one of them replaced. -/
namespace G
open PySem (Str)
open L2 (Key)
abbrev FM := List (Str × List Nat)
def foL (m : FM) : DL := m.map fun p => (.inr p.1, fD p.2)
def foD (m : FM) : D := sdD (foL m)
def lku (m : FM) (x : Str) : Option (List Nat) := (m.find? fun p => decide (p.1 = x)).map (·.2)
theorem lku_some {m : FM} {x : Str} {q : List Nat} (h : lku m x = some q) : (x, q) ∈ m := by
  unfold lku at h
  obtain ⟨p, hp, e⟩ := Option.map_eq_some_iff.mp h
  have := List.mem_of_find?_eq_some hp
  have e2 := List.find?_some hp
  simp only [decide_eq_true_eq] at e2
  rw [← e, ← e2]
  exact this
/-! names -/
def lettersS : Str := "abcdefghijklmnopqrstuvwxyz"
def isNm (x : Str) : Bool := decide (1 ≤ x.length) && decide (x.length ≤ 6) && x.cps.toList.all fun c => decide (c ∈ lettersS.cps.toList)
end G

/-! GUse: small helpers for the laws. -/
namespace G
open PySem (Str)
end G

/-! GUse2: small helpers for the laws: comprehensions, lengths, loops. -/
namespace G
theorem comp_of {α : Type} {p : Pat} {grd : Cs → Prop} {σ : Sl} {tst elt : Sl → Cs → KD → Prop} {Q : List D → Cs → Prop} {cs : Cs} (f : α → D) (t : α → Bool) (g : α → D) (hg : grd cs) : ∀ (l : List α) (acc : List D),
    (∀ x ∈ l, ∃ σ1, bindP p [f x] σ = some σ1 ∧ (∀ K : KD, K (.bl (t x)) cs → tst σ1 cs K) ∧ (t x = true → ∀ K : KD, K (g x) cs → elt σ1 cs K)) →
    acc.length + l.length ≤ lim → Q (acc ++ (l.filter t).map g) cs → compL p grd σ tst elt Q (l.map f) acc cs
  | [], acc, _, _, hQ => ⟨hg, by simpa using hQ⟩
  | x :: xs, acc, h, hl, hQ => by
    obtain ⟨σ1, hb, ht, he⟩ := h x List.mem_cons_self
    refine ⟨hg, ?_⟩
    rw [hb]
    have ih := fun acc => comp_of (tst := tst) (elt := elt) (Q := Q) f t g hg xs acc fun y hy => h y (List.mem_cons_of_mem _ hy)
    have hl2 : acc.length + (xs.length + 1) ≤ lim := by simpa using hl
    refine ht _ ?_
    cases e : t x with
    | true =>
      refine .inl ⟨rfl, he e _ ⟨by omega, ih _ (by simp; omega) ?_⟩⟩
      simpa [e] using hQ
    | false =>
      refine .inr ⟨rfl, ih _ (by omega) ?_⟩
      simpa [e] using hQ
theorem len_s {x : D} {xs : List D} {cs : Cs} {Q : KD} {X : KX} (h : isSeq x xs) : sLen [x] cs Q X = Q (.int (xs.length : Nat)) cs := by
  rcases h with rfl | rfl <;> rfl
theorem l0 : (([] : List D).length ≤ lim) = True := eq_true (Nat.zero_le _)
theorem l1 {x : D} : ([x].length ≤ lim) = True := eq_true (show 1 ≤ 16777216 by decide)
theorem l2 {x y : D} : ([x, y].length ≤ lim) = True := eq_true (show 2 ≤ 16777216 by decide)
theorem l3 {x y z : D} : ([x, y, z].length ≤ lim) = True := eq_true (show 3 ≤ 16777216 by decide)
theorem l4 {x y z w : D} : ([x, y, z, w].length ≤ lim) = True := eq_true (show 4 ≤ 16777216 by decide)
end G

/-! GLink: a root put under another. -/
namespace G
open PySem (Str)
section
variable {p : List Nat} {c a : Nat}
end
/-! ### the errors -/
def nrE (p : List Nat) (c : Int) : Option (Str × Int) := if 0 ≤ c ∧ c < p.length then (if par p c.toNat = c.toNat then none else some ("NotRoot", c)) else some ("NoNode", c)
def lnkE (p : List Nat) (c a : Int) : Option (Str × Int) := match nrE p c with
  | some e => some e
  | none => match nrE p a with
    | some e => some e
    | none => if c = a then some ("SameRoot", c) else none
end G

/-! GHist: histories: steps as a type; checked, run. -/
namespace G
open PySem (Str)
inductive Stp where
  | nd (i : Int)
  | lk (c a : Int)
  | rp (n : Nat) (b : Bool) (ss : List Stp)
def sqD (b : Bool) (xs : List D) : D := if b = true then .tup xs else .lst xs
mutual
def stD : Stp → D
  | .nd i => .int i
  | .lk c a => .tup [.str "link", .int c, .int a]
  | .rp n b ss => .tup [.str "repeat", .int (n : Nat), sqD b (stDs ss)]
def stDs : List Stp → List D
  | [] => []
  | s :: ss => stD s :: stDs ss
end
theorem stDs_map : ∀ ss : List Stp, stDs ss = ss.map stD
  | [] => by simp [stDs]
  | s :: ss => by rw [stDs, stDs_map ss]; rfl
mutual
def dpS : Stp → Nat
  | .nd _ => 0
  | .lk _ _ => 0
  | .rp _ _ ss => dpL ss + 1
def dpL : List Stp → Nat
  | [] => 0
  | s :: ss => max (dpS s) (dpL ss)
end
mutual
/-- the steps written, inner ones too -/
def wrS : Stp → Nat
  | .nd _ => 1
  | .lk _ _ => 1
  | .rp _ _ ss => wrL ss + 1
def wrL : List Stp → Nat
  | [] => 0
  | s :: ss => wrS s + wrL ss
end
mutual
def vlS : Nat → Stp → Prop
  | _, .nd _ => True
  | k, .lk _ _ => k = 0
  | k, .rp n _ ss => k < 4 ∧ n ≤ 10 ^ 30 ∧ vlL (k + 1) ss
def vlL : Nat → List Stp → Prop
  | _, [] => True
  | k, s :: ss => vlS k s ∧ vlL k ss
end
theorem wrS_pos : ∀ s, 0 < wrS s := fun s => by cases s <;> simp [wrS]
theorem wrL_len : ∀ ss : List Stp, ss.length ≤ wrL ss
  | [] => Nat.le_refl _
  | s :: ss => by
    have := wrS_pos s
    have := wrL_len ss
    simp [wrL]
    omega
mutual
theorem dpS_le : ∀ (k : Nat) (s : Stp), vlS k s → k ≤ 4 → dpS s + k ≤ 4
  | _, .nd _, _, hk => by simpa [dpS] using hk
  | _, .lk _ _, _, hk => by simpa [dpS] using hk
  | k, .rp n _ ss, h, hk => by
    have h : k < 4 ∧ n ≤ 10 ^ 30 ∧ vlL (k + 1) ss := by simpa [vlS] using h
    have := dpL_le (k + 1) ss h.2.2 (by omega)
    simp only [dpS]
    omega
theorem dpL_le : ∀ (k : Nat) (ss : List Stp), vlL k ss → k ≤ 4 → dpL ss + k ≤ 4
  | _, [], _, hk => by simpa [dpL] using hk
  | k, s :: ss, h, hk => by
    have h : vlS k s ∧ vlL k ss := by simpa [vlL] using h
    have a := dpS_le k s h.1 hk
    have b := dpL_le k ss h.2 hk
    simp only [dpL]
    omega
end
mutual
theorem stD_pur : ∀ (k : Nat) (s : Stp), 2 * dpS s + 1 ≤ k → wrS s ≤ 1000 → pur k (stD s) = true
  | k, .nd i, _, _ => by rw [stD]; exact pur_int
  | k + 1, .lk c a, _, _ => by
    rw [stD]
    show (decide (3 ≤ lim) && (pur k (.str "link") && (pur k (.int c) && (pur k (.int a) && true)))) = true
    rw [pur_str (by decide +kernel), pur_int, pur_int]
    rfl
  | k + 2, .rp n b ss, h, hw => by
    simp only [dpS] at h
    simp only [wrS] at hw
    have z := stDs_pur k ss (by omega) (by omega)
    have l := wrL_len ss
    have e : pur (k + 1) (sqD b (stDs ss)) = true := by
      have e2 : (decide ((stDs ss).length ≤ lim) && purs k (stDs ss)) = true := by
        rw [z, decide_eq_true (show _ ≤ 16777216 by rw [stDs_map, List.length_map]; omega)]
        rfl
      cases b <;> exact e2
    rw [stD]
    show (decide (3 ≤ lim) && (pur (k + 1) (.str "repeat") && (pur (k + 1) (.int (n : Nat)) && (pur (k + 1) (sqD b (stDs ss)) && true)))) = true
    rw [pur_str (by decide +kernel), pur_int, e]
    rfl
  | 0, .lk _ _, h, _ => by simp at h
  | 0, .rp _ _ _, h, _ => by simp at h
  | 1, .rp _ _ _, h, _ => by simp [dpS] at h
theorem stDs_pur : ∀ (k : Nat) (ss : List Stp), 2 * dpL ss + 1 ≤ k → wrL ss ≤ 1000 → purs k (stDs ss) = true
  | _, [], _, _ => by rw [stDs]; rfl
  | k, s :: ss, h, hw => by
    simp only [dpL] at h
    simp only [wrL] at hw
    rw [stDs]
    show (pur k (stD s) && purs k (stDs ss)) = true
    rw [stD_pur k s (by omega) (by omega), stDs_pur k ss (by omega) (by omega)]
    rfl
end
/-! ### the walk over steps -/
theorem grdL_self {x : D} {cs : Cs} : grdL x cs cs := by cases x <;> first | trivial | rfl
theorem sqD_q {b : Bool} {xs : List D} {cs : Cs} : getQ (sqD b xs) cs = some xs := by cases b <;> rfl
/-- what stands from here on: what is still to be walked -/
theorem forL_rest {i : Nat} {grd : Cs → Prop} {body : Sl → Cs → Ends → Prop} {K : Ends} (I : List Stp → Sl → Cs → Prop)
    (hg : ∀ ss σ cs, I ss σ cs → grd cs)
    (hs : ∀ s ss σ cs, I (s :: ss) σ cs → ∀ K', (∀ σ' cs', I ss σ' cs' → K'.nx σ' cs') → K'.rt = K.rt → K'.ex = K.ex → body (σ.set i (some (stD s))) cs K')
    (hd : ∀ σ cs, I [] σ cs → K.nx σ cs) : ∀ (ss : List Stp) {σ : Sl} {cs : Cs}, I ss σ cs → forL (.nm i) grd body K (stDs ss) σ cs
  | [], σ, cs, h => by
    rw [stDs]
    exact ⟨hg _ _ _ h, hd _ _ h⟩
  | s :: ss, σ, cs, h => by
    rw [stDs]
    refine ⟨hg _ _ _ h, ?_⟩
    exact hs s ss σ cs h _ (fun σ' cs' h' => forL_rest I hg hs hd ss h') rfl rfl
theorem isi_st {s : Stp} {cs : Cs} {Q : KD} {X : KX} : sIsi .int [stD s] cs Q X = Q (.bl (match s with
    | .nd _ => true
    | _ => false)) cs := by
  cases s <;> simp only [stD] <;> rfl
theorem strE_e {a b : Str} {cs : Cs} {Q : KD} {X : KX} (ha : strOk a = true) (hb : strOk b = true) : sEq [.str a, .str b] cs Q X = Q (.bl (a == b)) cs := by
  rw [sEq_e]
  have h1 : pur 64 (deref cs (.str a)) = true := ha
  have h2 : pur 64 (deref cs (.str b)) = true := hb
  rw [h1, h2]
  simp only [true_and]
  rfl
theorem ok_lkS : strOk "link" = true := by decide +kernel
theorem ok_rpS : strOk "repeat" = true := by decide +kernel
theorem lr1 : (("link" : Str) == "link") = true := by decide +kernel
theorem lr2 : (("link" : Str) == "repeat") = false := by decide +kernel
theorem lr3 : (("repeat" : Str) == "link") = false := by decide +kernel
theorem lr4 : (("repeat" : Str) == "repeat") = true := by decide +kernel
theorem ix3_0 {a b c : D} : ix [a, b, c] 0 = some a := rfl
theorem ix3_1 {a b c : D} : ix [a, b, c] 1 = some b := rfl
theorem ix3_2 {a b c : D} : ix [a, b, c] 2 = some c := rfl
/-- a step that is a tuple -/
def spCT : Spec := fun ds cs Q _ => ∃ s, ∃ k pos : Int, ds = [stD s, .int k, .int pos] ∧ (∃ k' : Nat, k = k' ∧ vlS k' s) ∧ (∀ i, s ≠ .nd i) ∧ Q .non cs
theorem isi_sq {b : Bool} {xs : List D} {cs : Cs} {Q : KD} {X : KX} : sIsi .int [sqD b xs] cs Q X = Q (.bl false) cs := by cases b <;> rfl
theorem isi_int {i : Int} {cs : Cs} {Q : KD} {X : KX} : sIsi .int [.int i] cs Q X = Q (.bl true) cs := rfl
theorem sIAdd_e {i j : Int} {cs : Cs} {Q : KD} {X : KX} : sIAdd [.int i, .int j] cs Q X = Q (.int (i + j)) cs := by simp [sIAdd, sInt, CTrue]
theorem sLen_tup {xs : List D} {cs : Cs} {Q : KD} {X : KX} : sLen [.tup xs] cs Q X = Q (.int (xs.length : Nat)) cs := rfl
theorem ok_ctX : okFn 3 c_check_tupleX spCT := by
  rintro ds cs Q X ⟨s, k, pos, rfl, ⟨k, rfl, hv⟩, hn, hQ⟩
  show wpS (.seq c_check_tupleX_2 (.seq c_check_tupleX_4 c_check_tupleX_6)) [some (stD s), some (.int (k : Nat)), some (.int pos)] cs _
  simp only [wpS]
  cases s with
  | nd i => exact (hn i rfl).elim
  | lk c a =>
    have hk : k = 0 := by simpa [vlS] using hv
    subst hk
    simp only [stD]
    rw [c_check_tupleX_2]
    simp only [wpS, wpE, wpEs, getV, sLen_tup, sNe_i, sIx_e, getQ, ix3_0, sTup_e, sNotIn_e, flat]
    simp
    refine ⟨show 2 ≤ 16777216 by decide, ?_⟩
    rw [show inD (.str "link") [.str "link", .str "repeat"] = true by decide +kernel]
    simp
    rw [c_check_tupleX_4]
    simp only [wpS, wpE, wpEs, getV, sIx_e, getQ, ix3_0, ix3_2, strE_e ok_lkS ok_lkS, lr1, if_true, sGt_i, isi_int, sNot_e]
    simp
    rw [c_check_tupleX_6]
    simp only [wpS, wpE, wpEs, getV, sIx_e, getQ, ix3_0, strE_e ok_lkS ok_rpS, lr2, Bool.false_eq_true, if_false]
    exact ⟨⟨rfl, rfl⟩, hQ⟩
  | rp n b ss =>
    have h : k < 4 ∧ n ≤ 10 ^ 30 ∧ vlL (k + 1) ss := by simpa [vlS] using hv
    simp only [stD]
    rw [c_check_tupleX_2]
    simp only [wpS, wpE, wpEs, getV, sLen_tup, sNe_i, sIx_e, getQ, ix3_0, sTup_e, sNotIn_e, flat]
    simp
    refine ⟨show 2 ≤ 16777216 by decide, ?_⟩
    rw [show inD (.str "repeat") [.str "link", .str "repeat"] = true by decide +kernel]
    simp
    rw [c_check_tupleX_4]
    simp only [wpS, wpE, wpEs, getV, sIx_e, getQ, ix3_0, strE_e ok_rpS ok_lkS, lr3, Bool.false_eq_true, if_false]
    rw [c_check_tupleX_6]
    simp only [wpS, wpE, wpEs, getV, sIx_e, getQ, ix3_0, ix3_2, ix3_1, strE_e ok_rpS ok_rpS, lr4, if_true, isi_sq]
    have e1 : ¬ ((k : Nat) : Int) = 4 := by omega
    have e2 : ((n : Nat) : Int) ≤ 1000000000000000000000000000000 := by
      have := h.2.1
      have e : (10 : Nat) ^ 30 = 1000000000000000000000000000000 := by decide
      omega
    simp [e1, e2]
    exact ⟨⟨rfl, rfl⟩, hQ⟩
end G

/-! GHist2: histories checked and run, over the core. -/
namespace G
open PySem (Str)
def spCS : Nat → Spec
  | 0 => fun _ _ _ _ => False
  | i + 1 => fun ds cs Q _ => ∃ x ss, ∃ k pos : Nat, ds = [x, .int (k : Nat), .int (pos : Nat)] ∧ getQ x cs = some (stDs ss) ∧ vlL k ss ∧ pos + wrL ss ≤ 100 ∧ dpL ss ≤ i ∧ Q (.int (pos + wrL ss : Nat)) cs
theorem iSeq_q {x : D} {xs : List D} {cs : Cs} {R : List D → (Cs → Prop) → Prop} (h : getQ x cs = some xs) (k : R xs (grdL x cs)) : iSeq [x] cs R := by
  show (match getQ x cs with
    | some xs => R xs (grdL x cs)
    | none => False)
  rw [h]
  exact k
def spCH : Spec := fun ds cs Q _ => ∃ x ss, ds = [x] ∧ getQ x cs = some (stDs ss) ∧ vlL 0 ss ∧ wrL ss ≤ 100 ∧ Q .non cs
end G

/-! GHist3: histories run. -/
namespace G
open PySem (Str)
/-- what find must promise -/
structure FdOk (e : Bool) (pf : Spec) : Prop where
  ok : ∀ {p : List Nat} {i : Nat} {cs : Cs} {Q : KD} {X : KX}, FoOk p → i < p.length → p.length ≤ 1000 → Q (.tup [fD (fnd p i), .int (cst p i : Nat)]) cs → pf [fD p, .int (i : Nat)] cs Q X
  er : e = true → ∀ {p : List Nat} {v : Int} {cs : Cs} {Q : KD} {X : KX}, v < 0 ∨ (p.length : Int) ≤ v → X (er "NoNode" "node" (.int v)) cs → pf [fD p, .int v] cs Q X
/-- what link must promise -/
structure LkOk (e : Bool) (pl : Spec) : Prop where
  ok : ∀ {p : List Nat} {c a : Int} {cs : Cs} {Q : KD} {X : KX}, FoOk p → p.length ≤ 1000 → lnkE p c a = none → Q (fD (cmp p [c.toNat] a.toNat)) cs → pl [fD p, .int c, .int a] cs Q X
  er : e = true → ∀ {p : List Nat} {c a : Int} {t : Str} {v : Int} {cs : Cs} {Q : KD} {X : KX}, p.length ≤ 1000 → lnkE p c a = some (t, v) → X (er t "node" (.int v)) cs → pl [fD p, .int c, .int a] cs Q X
end G

/-! GHist4: histories drawn. -/
namespace G
open PySem (Str)
def okS (m : Int) : Nat → Stp → Prop
  | _, .nd i => 0 ≤ i ∧ i < m
  | d + 1, .rp n _ ss => n ≤ 10 ^ 30 ∧ ss.length ≤ 3 ∧ ∀ s ∈ ss, okS m d s
  | _, _ => False
def wrM : Nat → Nat
  | 0 => 1
  | d + 1 => 3 * wrM d + 1
theorem wrL_le {B : Nat} : ∀ ss : List Stp, (∀ s ∈ ss, wrS s ≤ B) → wrL ss ≤ ss.length * B
  | [], _ => by simp [wrL]
  | s :: ss, h => by
    have a := h s List.mem_cons_self
    have b := wrL_le ss fun s hs => h s (List.mem_cons_of_mem _ hs)
    simp only [wrL, List.length_cons, Nat.succ_mul]
    omega
theorem vlL_of {k : Nat} : ∀ ss : List Stp, (∀ s ∈ ss, vlS k s) → vlL k ss
  | [], _ => by simp [vlL]
  | s :: ss, h => by
    simp only [vlL]
    exact ⟨h s List.mem_cons_self, vlL_of ss fun s hs => h s (List.mem_cons_of_mem _ hs)⟩
theorem dpL_of {B : Nat} : ∀ ss : List Stp, (∀ s ∈ ss, dpS s ≤ B) → dpL ss ≤ B
  | [], _ => by simp [dpL]
  | s :: ss, h => by
    have a := h s List.mem_cons_self
    have b := dpL_of ss fun s hs => h s (List.mem_cons_of_mem _ hs)
    simp only [dpL]
    omega
theorem okS_wr {m : Int} : ∀ (d : Nat) (s : Stp), okS m d s → wrS s ≤ wrM d
  | 0, .nd i, _ => by simp [wrS, wrM]
  | d + 1, .nd i, _ => by simp [wrS, wrM]
  | d + 1, .rp n b ss, h => by
    simp only [okS] at h
    have z := wrL_le ss fun s hs => okS_wr d s (h.2.2 s hs)
    have y := Nat.mul_le_mul_right (wrM d) h.2.1
    simp only [wrS, wrM]
    omega
  | 0, .lk _ _, h => by simp [okS] at h
  | d + 1, .lk _ _, h => by simp [okS] at h
  | 0, .rp _ _ _, h => by simp [okS] at h
theorem okS_vl {m : Int} : ∀ (d k : Nat) (s : Stp), okS m d s → k + d ≤ 4 → vlS k s
  | 0, k, .nd i, _, _ => by simp [vlS]
  | d + 1, k, .nd i, _, _ => by simp [vlS]
  | d + 1, k, .rp n b ss, h, hk => by
    simp only [okS] at h
    simp only [vlS]
    exact ⟨by omega, h.1, vlL_of ss fun s hs => okS_vl d (k + 1) s (h.2.2 s hs) (by omega)⟩
  | 0, _, .lk _ _, h, _ => by simp [okS] at h
  | d + 1, _, .lk _ _, h, _ => by simp [okS] at h
  | 0, _, .rp _ _ _, h, _ => by simp [okS] at h
theorem okS_dp {m : Int} : ∀ (d : Nat) (s : Stp), okS m d s → dpS s ≤ d
  | 0, .nd i, _ => by simp [dpS]
  | d + 1, .nd i, _ => by simp [dpS]
  | d + 1, .rp n b ss, h => by
    simp only [okS] at h
    have := dpL_of ss fun s hs => okS_dp d s (h.2.2 s hs)
    simp only [dpS]
    omega
  | 0, .lk _ _, h => by simp [okS] at h
  | d + 1, .lk _ _, h => by simp [okS] at h
  | 0, .rp _ _ _, h => by simp [okS] at h
theorem steps_of {m : Int} {d : Nat} : ∀ ys : List D, (∀ y ∈ ys, ∃ s, okS m d s ∧ y = stD s) → ∃ ss, ys = stDs ss ∧ ss.length = ys.length ∧ ∀ s ∈ ss, okS m d s
  | [], _ => ⟨[], by simp [stDs], rfl, by simp⟩
  | y :: ys, h => by
    obtain ⟨s, hs, e⟩ := h y List.mem_cons_self
    obtain ⟨ss, e2, el, h2⟩ := steps_of ys fun y hy => h y (List.mem_cons_of_mem _ hy)
    refine ⟨s :: ss, by rw [stDs, e, e2], by simp [el], fun t ht => ?_⟩
    rcases List.mem_cons.mp ht with z | z
    · rw [z]
      exact hs
    · exact h2 t z
def spLS : Nat → Spec
  | 0 => fun _ _ _ _ => False
  | i + 1 => fun ds cs Q _ => ∃ n m d, ds = [.ref n, .int m, .int (d : Nat)] ∧ cs n = some .drw ∧ 0 < m ∧ m ≤ 2 ^ 100 ∧ d ≤ i ∧ ∀ s, okS m d s → Q (stD s) cs
theorem spLS_e {i n d : Nat} {m : Int} {cs : Cs} {Q : KD} {X : KX} (hc : cs n = some .drw) (h0 : 0 < m) (h1 : m ≤ 2 ^ 100) (hd : d < i) (hQ : ∀ s, okS m d s → Q (stD s) cs) : spLS i [.ref n, .int m, .int (d : Nat)] cs Q X := by
  cases i with
  | zero => omega
  | succ i => exact ⟨n, m, d, rfl, hc, h0, h1, by omega, hQ⟩
theorem okS_nd {m : Int} {d : Nat} {i : Int} (h0 : 0 ≤ i) (h1 : i < m) : okS m d (.nd i) := by
  cases d <;> exact ⟨h0, h1⟩
theorem ok_lstep (i : Nat) : okFn 6 (c_l_step spOf (spLS i) spTake) (spLS (i + 1)) := by
  rintro ds cs Q X ⟨n, m, d, rfl, hc, h0, h1, hd, hQ⟩
  show wpS (.seq (c_l_step_2 spOf (spLS i) spTake) (.seq (c_l_step_3 spOf (spLS i) spTake) (.seq (c_l_step_4 spOf (spLS i) spTake) (c_l_step_5 spOf (spLS i) spTake)))) [some (.ref n), some (.int m), some (.int (d : Nat)), none, none, none] cs _
  simp only [wpS]
  rw [c_l_step_2]
  have leaf : wpS (c_l_step_1 spOf (spLS i) spTake) [some (.ref n), some (.int m), some (.int (d : Nat)), none, none, none] cs { nx := fun σ' cs' => wpS (c_l_step_3 spOf (spLS i) spTake) σ' cs' { nx := fun σ' cs' => wpS (c_l_step_4 spOf (spLS i) spTake) σ' cs' { nx := fun σ' cs' => wpS (c_l_step_5 spOf (spLS i) spTake) σ' cs' { nx := fun x cs' => Q D.non cs', rt := Q, ex := fun x x_1 cs' => X x cs' }, rt := Q, ex := fun x x_1 cs' => X x cs' }, rt := Q, ex := fun x x_1 cs' => X x cs' }, rt := Q, ex := fun x x_1 cs' => X x cs' } := by
    rw [c_l_step_1]
    simp only [wpS, wpE, wpEs, getV, spTake_e]
    exact ⟨hc, h0, by omega, fun r r0 r1 => by
      have := hQ (.nd r) (okS_nd r0 r1)
      rw [stD] at this
      exact this⟩
  simp only [wpS, wpE, wpEs, getV, sEq_i]
  by_cases d0 : d = 0
  · subst d0
    exact leaf
  · have e0 : (((d : Nat) : Int) == 0) = false := by
      rw [beq_eq_false_iff_ne]
      omega
    simp only [e0, Bool.false_eq_true, if_false, spTake_e]
    refine ⟨hc, by decide, by decide, fun r r0 r1 => ?_⟩
    simp only [sGt_i]
    by_cases er : 0 < r
    · rw [decide_eq_true er]
      exact leaf
    rw [decide_eq_false er]
    simp only [Bool.false_eq_true, if_false]
    rw [c_l_step_3]
    simp only [wpS, wpE, wpEs, getV, spTake_e]
    refine ⟨hc, by decide, by decide, fun u u0 u1 => ?_⟩
    simp only [sPow_i]
    refine ⟨powOk_c (by omega), powOk_c (by omega), ?_⟩
    rw [spTake_e]
    refine ⟨hc, by decide, by decide, fun v v0 v1 => ?_⟩
    simp only [sList_e]
    refine ⟨show 7 ≤ 16777216 by decide, ?_⟩
    rw [spOf_e]
    refine ⟨hc, (fun s e => by cases e), _, rfl, by simp, (show 7 ≤ 16777216 by decide), fun w hw => ?_⟩
    have hk : ∃ k : Nat, w = .int (k : Nat) ∧ k ≤ 10 ^ 30 := by
      have e30 : (10 : Int) ^ (30 : Int).toNat = ((10 ^ 30 : Nat) : Int) := by decide
      rw [e30] at hw v1
      have eN : (10 : Nat) ^ 30 = 1000000000000000000000000000000 := by decide
      rw [eN] at hw v1 ⊢
      simp only [List.mem_cons, List.not_mem_nil, or_false] at hw
      rcases hw with z | z | z | z | z | z | z
      · exact ⟨0, z, by omega⟩
      · exact ⟨1, z, by omega⟩
      · exact ⟨2, z, by omega⟩
      · exact ⟨3, z, by omega⟩
      · exact ⟨u.toNat, by rw [z, Int.toNat_of_nonneg u0], by omega⟩
      · exact ⟨_, z, by omega⟩
      · exact ⟨v.toNat, by rw [z, Int.toNat_of_nonneg v0], by omega⟩
    obtain ⟨k, rfl, hk⟩ := hk
    simp only [bindP, List.set]
    rw [c_l_step_4]
    simp only [wpS, wpE, wpEs, getV, spTake_e]
    refine ⟨hc, by decide, by decide, fun g g0 g1 => ?_⟩
    refine ⟨by omega, by omega, ?_⟩
    obtain ⟨d', rfl⟩ : ∃ d', d = d' + 1 := ⟨d - 1, by omega⟩
    have lg : (rgD 0 g).length ≤ 3 := by rw [rgD_length]; omega
    refine compL_all (fun y => ∃ s, okS m d' s ∧ y = stD s) trivial _ _ (fun x hx => ⟨_, rfl, fun K hK => hK, fun K hK => ?_⟩) (show _ ≤ 16777216 by simp; omega) fun ys hl hy => ?_
    · simp only [wipe, List.set, getV, sSub_i]
      have ed : ((d' + 1 : Nat) : Int) - 1 = (d' : Nat) := by omega
      rw [ed]
      exact spLS_e hc h0 h1 (by omega) fun s hs => hK _ ⟨s, hs, rfl⟩
    · obtain ⟨ss, rfl, el, hs⟩ := steps_of ys hy
      rw [if_neg Bool.false_ne_true, List.nil_append]
      rw [c_l_step_5]
      simp only [wpS, wpE, wpEs, getV, sTupOf_e, getQ, G.getL, sList_e]
      refine ⟨show 2 ≤ 16777216 by decide, ?_⟩
      rw [spOf_e]
      refine ⟨hc, (fun s e => by cases e), _, rfl, by simp, (show 2 ≤ 16777216 by decide), fun w hw => ?_⟩
      have fin : ∀ b, w = sqD b (stDs ss) → sTup [.str "repeat", .int (k : Nat), w] cs Q (fun x cs' => X x cs') := by
        rintro b rfl
        rw [sTup_e]
        refine ⟨show 3 ≤ 16777216 by decide, ?_⟩
        have := hQ (.rp k b ss) ⟨hk, by omega, hs⟩
        rw [stD] at this
        exact this
      simp only [List.mem_cons, List.not_mem_nil, or_false] at hw
      rcases hw with z | z
      · exact fin true z
      · exact fin false z
/-- drawn rounds -/
def spLR : Spec := fun ds cs Q _ => ∃ n m b d, ds = [.ref n, .int m, .int (b : Nat), .int (d : Nat)] ∧ cs n = some .drw ∧ 0 < m ∧ m ≤ 2 ^ 100 ∧ b ≤ 1000 ∧ d ≤ 4 ∧ ∀ ss, ss.length ≤ b → (∀ s ∈ ss, okS m d s) → Q (.lst (stDs ss)) cs
theorem spLR_e {n d b : Nat} {m : Int} {cs : Cs} {Q : KD} {X : KX} (hc : cs n = some .drw) (h0 : 0 < m) (h1 : m ≤ 2 ^ 100) (hb : b ≤ 1000) (hd : d ≤ 4) (hQ : ∀ ss, ss.length ≤ b → (∀ s ∈ ss, okS m d s) → Q (.lst (stDs ss)) cs) : spLR [.ref n, .int m, .int (b : Nat), .int (d : Nat)] cs Q X := ⟨n, m, b, d, rfl, hc, h0, h1, hb, hd, hQ⟩
theorem ok_lrounds : okFn 5 (c_l_rounds (spLS 5) spTake) spLR := by
  rintro ds cs Q X ⟨n, m, b, d, rfl, hc, h0, h1, hb, hd, hQ⟩
  show wpS (c_l_rounds_1 (spLS 5) spTake) [some (.ref n), some (.int m), some (.int (b : Nat)), some (.int (d : Nat)), none] cs _
  rw [c_l_rounds_1]
  simp only [wpS, wpE, wpEs, getV, sAdd_i, spTake_e]
  refine ⟨hc, by omega, by omega, fun g g0 g1 => ⟨by omega, by omega, ?_⟩⟩
  have lg : (rgD 0 g).length ≤ b := by rw [rgD_length]; omega
  refine compL_all (fun y => ∃ s, okS m d s ∧ y = stD s) trivial _ _ (fun x hx => ⟨_, rfl, fun K hK => hK, fun K hK => ?_⟩) (show _ ≤ 16777216 by simp; omega) fun ys hl hy => ?_
  · simp only [wipe, List.set, getV]
    exact spLS_e hc h0 h1 (by omega) fun s hs => hK _ ⟨s, hs, rfl⟩
  · obtain ⟨ss, rfl, el, hs⟩ := steps_of ys hy
    rw [if_neg Bool.false_ne_true, List.nil_append]
    exact hQ ss (by omega) hs
end G

/-! GHist5: histories: finds counted, written out, epochs; link without errors. -/
namespace G
open PySem (Str)
/-! ### link, good roots only -/
/-! ### finds counted -/
/-! ### written out -/
theorem stDs_app {a b : List Stp} : stDs (a ++ b) = stDs a ++ stDs b := by rw [stDs_map, stDs_map, stDs_map, List.map_append]
theorem stDs_len {a : List Stp} : (stDs a).length = a.length := by rw [stDs_map, List.length_map]
end G

/-! GHist6: epochs of histories of finds and links. -/
namespace G
open PySem (Str)
/-- a find or a link -/
inductive Fl where
  | nd (i : Nat)
  | lk (c a : Int)
/-- cells that hold lists of nodes -/
def Hold (c : Cs) : List Nat → List (List Nat) → Prop
  | [], [] => True
  | n :: ns, l :: ls => c n = some (.lst (nI l)) ∧ Hold c ns ls
  | _, _ => False
theorem Hold.put {c : Cs} {k : Nat} {o : Ob} : ∀ {ns : List Nat} {ls : List (List Nat)}, Hold c ns ls → k ∉ ns → Hold (put c k o) ns ls
  | [], [], _, _ => trivial
  | n :: ns, l :: ls, h, hk => ⟨by rw [put_ne (fun z => hk (by simp [z]))]; exact h.1, Hold.put h.2 fun z => hk (by simp [z])⟩
theorem Hold.del {c : Cs} {k : Nat} : ∀ {ns : List Nat} {ls : List (List Nat)}, Hold c ns ls → k ∉ ns → Hold (del c k) ns ls
  | [], [], _, _ => trivial
  | n :: ns, l :: ls, h, hk => ⟨by
      have : n ≠ k := fun z => hk (by simp [z])
      show (if n = k then none else c n) = _
      rw [if_neg this]
      exact h.1, Hold.del h.2 fun z => hk (by simp [z])⟩
theorem Hold.app {c : Cs} {n : Nat} {l : List Nat} : ∀ {ns : List Nat} {ls : List (List Nat)}, Hold c ns ls → c n = some (.lst (nI l)) → Hold c (ns ++ [n]) (ls ++ [l])
  | [], [], _, h => ⟨h, trivial⟩
  | _ :: _, _ :: _, h, h' => ⟨h.1, Hold.app h.2 h'⟩
theorem Hold.len {c : Cs} : ∀ {ns : List Nat} {ls : List (List Nat)}, Hold c ns ls → ns.length = ls.length
  | [], [], _ => rfl
  | _ :: _, _ :: _, h => by simp [Hold.len h.2]
theorem Hold.some {c : Cs} {k : Nat} : ∀ {ns : List Nat} {ls : List (List Nat)}, Hold c ns ls → k ∈ ns → c k ≠ none
  | [], [], _, hk => by cases hk
  | n :: ns, l :: ls, h, hk => by
    rcases List.mem_cons.mp hk with z | z
    · subst z
      rw [h.1]
      simp
    · exact Hold.some h.2 z
end G

/-! GReprH: repr of histories. -/
namespace G
open PySem (Str PyData)
open PySem
end G

/-! GHist7: finds counted, steps written, histories written out; their runs in normal form. -/
namespace G
open PySem (Str)
/-! ### steps written -/
def spWr : Nat → G.Spec
  | 0 => fun _ _ _ _ => False
  | i + 1 => fun ds cs Q _ => ∃ x ss, ds = [x] ∧ getQ x cs = some (stDs ss) ∧ dpL ss ≤ i ∧ Q (.int (wrL ss : Nat)) cs
theorem spWr_e {i : Nat} {x : D} {ss : List Stp} {cs : Cs} {Q : KD} {X : KX} (hx : getQ x cs = some (stDs ss)) (hd : dpL ss < i) (hQ : Q (.int (wrL ss : Nat)) cs) : spWr i [x] cs Q X := by
  cases i with
  | zero => omega
  | succ i => exact ⟨x, ss, rfl, hx, by omega, hQ⟩
theorem ok_lwr (i : Nat) : okFn 3 (c_l_written (spWr i)) (spWr (i + 1)) := by
  rintro ds cs Q X ⟨x, ss, rfl, hx, hd, hQ⟩
  show wpS (.seq (c_l_written_1 (spWr i)) (.seq (c_l_written_5 (spWr i)) (c_l_written_6 (spWr i)))) [some x, none, none] cs _
  simp only [wpS]
  rw [c_l_written_1]
  simp only [wpS, wpE, bindP, List.set]
  rw [c_l_written_5]
  simp only [wpS, wpE, wpEs, getV]
  refine iSeq_q hx (forL_rest (fun rest σ c => c = cs ∧ ∃ (t : Nat) (a : Option D), σ = [some x, some (.int (t : Nat)), a] ∧ t + wrL rest = wrL ss ∧ dpL rest ≤ i) (fun _ _ _ h => by rw [h.1]; exact grdL_self) ?_ ?_ ss ⟨rfl, 0, _, rfl, by omega, hd⟩)
  · rintro s rest σ c ⟨rfl, t, a, rfl, ht, hd⟩ K' h1 h2 h3
    clear h2 h3
    simp only [wrL] at ht
    simp only [dpL] at hd
    simp only [wpS, List.set]
    rw [c_l_written_2]
    simp only [wpS, wpE, wpEs, getV, sAdd_i, bindP, List.set]
    rw [c_l_written_4]
    simp only [wpS, wpE, wpEs, getV, isi_st, sNot_e]
    cases s with
    | nd j =>
      simp only [wrS] at ht
      simp only [Bool.not_true, Bool.false_eq_true, if_false]
      exact h1 _ _ ⟨rfl, t + 1, _, rfl, by omega, by omega⟩
    | lk b d =>
      simp only [wrS] at ht
      simp only [Bool.not_false, if_true, stD, sIx_e, getQ, ix3_0, strE_e ok_lkS ok_rpS, lr2, Bool.false_eq_true, if_false]
      exact h1 _ _ ⟨rfl, t + 1, _, rfl, by omega, by omega⟩
    | rp n b us =>
      simp only [wrS] at ht
      simp only [dpS] at hd
      simp only [Bool.not_false, if_true, stD, sIx_e, getQ, ix3_0, strE_e ok_rpS ok_rpS, lr4]
      rw [c_l_written_3]
      simp only [wpS, wpE, wpEs, getV, sIx_e, getQ, ix3_2]
      refine spWr_e sqD_q (by omega) ?_
      simp only [sAdd_i, bindP, List.set]
      exact h1 _ _ ⟨rfl, t + 1 + wrL us, _, rfl, by omega, by omega⟩
  · rintro σ c ⟨rfl, t, a, rfl, ht, hd⟩
    rw [c_l_written_6]
    simp only [wpS, wpE, getV]
    simp only [wrL, Nat.add_zero] at ht
    rw [ht]
    exact hQ
/-! ### written out, as a tree -/
/-! ### runs in normal form -/
end G

/-! GSortN: sorted(..) of whole numbers as a cell. -/
namespace G
open PySem PySem.Spec L2
section
variable {X : Cx} {W : WX} {pos p : Pos} {a : Expr} {ca : E}
end
end G

namespace G
end G

/-! GHist8: the found nodes of histories; steps with tuples; epochs with rounds. -/
namespace G
open PySem (Str)
/-! ### found nodes -/
theorem sq_seq {b : Bool} {xs : List D} : isSeq (sqD b xs) xs := by
  cases b
  · exact .inl rfl
  · exact .inr rfl
/-! ### steps with tuples -/
mutual
def tpS : Stp → Stp
  | .nd i => .nd i
  | .lk c a => .lk c a
  | .rp n _ ss => .rp n true (tpL ss)
def tpL : List Stp → List Stp
  | [] => []
  | s :: ss => tpS s :: tpL ss
end
mutual
theorem tpS_wr : ∀ s : Stp, wrS (tpS s) = wrS s ∧ dpS (tpS s) = dpS s
  | .nd _ => ⟨rfl, rfl⟩
  | .lk _ _ => ⟨rfl, rfl⟩
  | .rp n b ss => by
    simp only [tpS, wrS, dpS, (tpL_wr ss).1, (tpL_wr ss).2]
    exact ⟨trivial, trivial⟩
theorem tpL_wr : ∀ ss : List Stp, wrL (tpL ss) = wrL ss ∧ dpL (tpL ss) = dpL ss
  | [] => ⟨rfl, rfl⟩
  | s :: ss => by
    simp only [tpL, wrL, dpL, (tpS_wr s).1, (tpS_wr s).2, (tpL_wr ss).1, (tpL_wr ss).2]
    exact ⟨trivial, trivial⟩
end
/-- the law's own -/
def spPl : Nat → Spec
  | 0 => fun _ _ _ _ => False
  | i + 1 => fun ds cs Q _ => ∃ x ss, ds = [x] ∧ isSeq x (stDs ss) ∧ dpL ss ≤ i ∧ wrL ss ≤ 1000 ∧ Q (.lst (stDs (tpL ss))) cs
theorem spPl_e {i : Nat} {x : D} {ss : List Stp} {cs : Cs} {Q : KD} {X : KX} (hx : isSeq x (stDs ss)) (hd : dpL ss < i) (hw : wrL ss ≤ 1000) (hQ : Q (.lst (stDs (tpL ss))) cs) : spPl i [x] cs Q X := by
  cases i with
  | zero => omega
  | succ i => exact ⟨x, ss, rfl, hx, by omega, hw, hQ⟩
theorem ok_pl (i : Nat) : okFn 4 (c_l_plain (spPl i)) (spPl (i + 1)) := by
  rintro ds cs Q X ⟨x, ss, rfl, hx, hd, hw, hQ⟩
  show wpS (.seq (c_l_plain_1 (spPl i)) (.seq (c_l_plain_4 (spPl i)) (.seq (.frz 1) (c_l_plain_5 (spPl i))))) [some x, none, none, none] cs _
  simp only [wpS]
  rw [c_l_plain_1]
  simp only [wpS, wpE, wpEs, bindP, getV, List.set, sListM_e]
  refine ⟨Nat.zero_le _, fun l hl => ?_⟩
  rw [c_l_plain_4]
  simp only [wpS, wpE, wpEs, getV]
  refine iSeq_e hx (forL_rest (fun rest σ c => ∃ (b : List Stp) (a2 a3 : Option D), σ = [some x, some (.ref l), a2, a3] ∧ c = put cs l (.lst (stDs b)) ∧ b ++ tpL rest = tpL ss ∧ dpL rest ≤ i ∧ b.length + wrL rest ≤ 1000) (fun _ _ _ _ => hx.g) ?_ ?_ ss ⟨[], _, _, rfl, rfl, rfl, hd, by simpa using hw⟩)
  · rintro s rest σ c ⟨b, a2, a3, rfl, rfl, he, hd, hl⟩ K' h1 h2 h3
    clear h2 h3
    simp only [tpL] at he
    simp only [dpL] at hd
    simp only [wrL] at hl
    have ws := wrS_pos s
    have step : ∀ {a3 : Option D}, wpS (c_l_plain_3 (spPl i)) [some x, some (.ref l), some (stD s), a3] (put cs l (.lst (stDs b))) K' ↔ wpS (c_l_plain_3 (spPl i)) [some x, some (.ref l), some (stD s), a3] (put cs l (.lst (stDs b))) K' := Iff.rfl
    have fin : ∀ a3, ∀ y, y = stD (tpS s) → sAppend [.ref l, y] (put cs l (.lst (stDs b))) (fun _ cs' => K'.nx [some x, some (.ref l), some (stD s), a3] cs') (fun e cs' => K'.ex e [some x, some (.ref l), some (stD s), a3] cs') := by
      intro a3 y ey
      rw [sAppend_e, put_same]
      dsimp only
      refine ⟨show _ < 16777216 by rw [stDs_len]; omega, ?_⟩
      rw [put_put, ey]
      refine h1 _ _ ⟨b ++ [tpS s], _, _, rfl, ?_, by rw [← he]; simp, by omega, by rw [List.length_append, List.length_singleton]; omega⟩
      rw [stDs_app]
      simp [stDs]
    simp only [wpS, List.set]
    rw [c_l_plain_2]
    simp only [wpS, wpE, wpEs, getV, isi_st]
    rw [c_l_plain_3]
    cases s with
    | nd j =>
      simp only [if_true, bindP, List.set, wpS, wpE, wpEs, getV, chkL_ref, put_same]
      exact ⟨trivial, fin _ _ rfl⟩
    | lk c a =>
      simp only [Bool.false_eq_true, if_false, stD, sIx_e, getQ_tup, ix3_0, strE_e ok_lkS ok_lkS, lr1, bindP, List.set, wpS, wpE, wpEs, getV, chkL_ref, put_same, if_true]
      exact ⟨trivial, fin _ _ rfl⟩
    | rp n bb us =>
      simp only [dpS] at hd
      simp only [wrS] at hl
      simp only [Bool.false_eq_true, if_false, stD, sIx_e, getQ_tup, ix3_0, ix3_1, ix3_2, strE_e ok_rpS ok_lkS, lr3, bindP, List.set, wpS, wpE, wpEs, getV, chkL_ref, put_same]
      refine ⟨trivial, spPl_e sq_seq (by omega) (by omega) ?_⟩
      simp only [sTupOf_e, getQ_lst, sTup_e]
      refine ⟨show 3 ≤ 16777216 by decide, fin _ _ ?_⟩
      rfl
  · rintro σ c ⟨b, a2, a3, rfl, rfl, he, _, _⟩
    simp only [tpL, List.append_nil] at he
    simp only [getV, put_same]
    rw [del_put hl, he]
    rw [c_l_plain_5]
    simp only [wpS, wpE, getV, List.set]
    exact hQ
/-! ### epochs -/
def HoldS (c : Cs) : List Nat → List (List Stp) → Prop
  | [], [] => True
  | n :: ns, l :: ls => c n = some (.lst (stDs l)) ∧ HoldS c ns ls
  | _, _ => False
theorem HoldS.put {c : Cs} {k : Nat} {o : Ob} : ∀ {ns : List Nat} {ls : List (List Stp)}, HoldS c ns ls → k ∉ ns → HoldS (put c k o) ns ls
  | [], [], _, _ => trivial
  | n :: ns, l :: ls, ⟨h, t⟩, hk => by
    have h1 : n ≠ k := fun z => hk (by rw [z]; exact List.mem_cons_self)
    exact ⟨by rw [put_ne h1]; exact h, HoldS.put t fun z => hk (List.mem_cons_of_mem _ z)⟩
theorem HoldS.del {c : Cs} {k : Nat} : ∀ {ns : List Nat} {ls : List (List Stp)}, HoldS c ns ls → k ∉ ns → HoldS (del c k) ns ls
  | [], [], _, _ => trivial
  | n :: ns, l :: ls, ⟨h, t⟩, hk => by
    have h1 : n ≠ k := fun z => hk (by rw [z]; exact List.mem_cons_self)
    refine ⟨?_, HoldS.del t fun z => hk (List.mem_cons_of_mem _ z)⟩
    show (if n = k then none else c n) = _
    rw [if_neg h1]
    exact h
theorem HoldS.app {c : Cs} {n : Nat} {l : List Stp} : ∀ {ns : List Nat} {ls : List (List Stp)}, HoldS c ns ls → c n = some (.lst (stDs l)) → HoldS c (ns ++ [n]) (ls ++ [l])
  | [], [], _, h => ⟨h, trivial⟩
  | m :: ns, k :: ls, ⟨h, t⟩, h2 => ⟨h, HoldS.app t h2⟩
theorem HoldS.some {c : Cs} {k : Nat} : ∀ {ns : List Nat} {ls : List (List Stp)}, HoldS c ns ls → k ∈ ns → c k ≠ none
  | [], [], _, hk => by cases hk
  | n :: ns, l :: ls, ⟨h, t⟩, hk => by
    rcases List.mem_cons.mp hk with rfl | z
    · rw [h]
      simp
    · exact t.some z
end G

/-! GDen: what values denote, part by part. -/
namespace G
open PySem (Str)
theorem dW_cons {f : D → Option D} {x a : D} {xs b : List D} (h1 : f x = some a) (h2 : densW f xs = some b) : densW f (x :: xs) = some (a :: b) := by
  unfold densW
  rw [h1, h2]
theorem den_lstL {cs : Cs} {k : Nat} {xs ts : List D} (hl : xs.length ≤ 16777216) (h : densW (den cs k) xs = some ts) : den cs (k + 1) (.lst xs) = some (.lst ts) := by
  simp only [den]
  rw [if_pos hl, h]
  rfl
theorem den_s {cs : Cs} {k : Nat} {x : Str} (h : strOk x = true) : den cs k (.str x) = some (.str x) := by
  cases k <;> simp [den, h]
end G

/-! GHist9: histories of finds written out once. -/
namespace G
open PySem (Str)
end G

/-! GErr2: roots, depths that may raise; lists of equal answers. -/
namespace G
open PySem (Str)
end G

/-! GStoB: what the functions on named forests promise. -/
namespace G
open PySem (Str)
open L2 (Key)
theorem asB_map : ∀ bs : List Bool, asBools (bs.map D.bl) = some bs
  | [] => rfl
  | b :: bs => by
    rw [List.map_cons]
    show (asBools (bs.map D.bl)).map (b :: ·) = _
    rw [asB_map bs]
    rfl
/-! with_forest -/
end G

namespace G
open PySem (Str)
open PySem.NumText
def oD : Option Int → D
  | none => .non
  | some i => .int i
def sgn (w : List Nat) : Prop := ∀ c ∈ w, c < 0x110000
theorem sgn_ok {w : List Nat} (h : sgn w) : strOk (SX.S w) = true := by
  unfold strOk SX.S
  simp
  exact h
theorem eq_S {a b : List Nat} {cs : Cs} {Q : KD} {X : KX} (ha : sgn a) (hb : sgn b) (h : Q (.bl (decide (a = b))) cs) : sEq [.str (SX.S a), .str (SX.S b)] cs Q X := by
  rw [sEq_e]
  refine ⟨pur_str (k := 64) (sgn_ok ha), pur_str (k := 64) (sgn_ok hb), ?_⟩
  show Q (.bl (SX.S a == SX.S b)) cs
  rw [SX.S_beq_eq]
  exact h
theorem dash_S : ("-" : Str) = SX.S [45] := by decide +kernel
theorem zero_S : ("0" : Str) = SX.S [48] := by decide +kernel
theorem sgn_sub {a b : List Nat} (h : sgn a) (hs : ∀ c ∈ b, c ∈ a) : sgn b := fun c hc => h c (hs c hc)
theorem dg_sub {w : List Nat} : ∀ c ∈ dg w, c ∈ w := fun c hc => by
  unfold dg at hc
  split at hc
  · exact List.mem_of_mem_drop hc
  · exact hc
def spPNm : G.Spec := fun ds cs Q _ => ∃ w : List Nat, ds = [.str (SX.S w)] ∧ sgn w ∧ w.length ≤ 100000 ∧ Q (oD (pnum w)) cs
theorem pn_rest {w : List Nat} {cs : Cs} {Q : KD} {X : KX} (hw : sgn w) (hl : w.length ≤ 100000) (hQ : Q (oD (pnum w)) cs) : wpS (.seq c_parse_number_3 (.seq c_parse_number_5 c_parse_number_6)) [some (.str (SX.S w)), some (.str (SX.S (dg w))), none] cs { nx := fun _ cs' => Q .non cs', rt := Q, ex := fun x _ cs' => X x cs' } := by
  have lw : (SX.S w).length ≤ 16777216 := by rw [SX.S_len]; omega
  have dl : (dg w).length ≤ w.length := by
    unfold dg
    split
    · rw [List.length_drop]; omega
    · exact Nat.le_refl _
  have ld : (SX.S (dg w)).length ≤ 16777216 := by rw [SX.S_len]; omega
  have hd : sgn (dg w) := sgn_sub hw dg_sub
  have isd : ∀ c, decide (c ∈ ("0123456789" : Str).cps.toList) = isDg c := by
    intro c
    have e : ("0123456789" : Str).cps.toList = [48, 49, 50, 51, 52, 53, 54, 55, 56, 57] := by decide +kernel
    rw [e]
    unfold isDg
    simp only [List.mem_cons, List.not_mem_nil, or_false]
    rw [← Bool.decide_and]
    exact decide_eq_decide.mpr (by omega)
  have len : ∀ (Q : KD) (X : KX), Q (.int ((dg w).length : Nat)) cs → sLen [.str (SX.S (dg w))] cs Q X := fun Q X h => ⟨ld, by rw [SX.S_len]; exact h⟩
  have none_ : (¬ (1 ≤ (dg w).length ∧ (dg w).length ≤ 31 ∧ (dg w).all isDg = true)) → Q .non cs := fun h => by
    unfold pnum at hQ
    rw [if_neg h] at hQ
    exact hQ
  simp only [wpS]
  rw [c_parse_number_3]
  simp only [wpS, wpE, wpEs, getV]
  refine len _ _ ?_
  have bad : (¬ (1 ≤ (dg w).length ∧ (dg w).length ≤ 31 ∧ (dg w).all isDg = true)) → ∀ K : Ends, K.rt = Q → wpS c_parse_number_2 [some (.str (SX.S w)), some (.str (SX.S (dg w))), none] cs K := fun h K e => by
    rw [c_parse_number_2]
    simp only [wpS, wpE]
    rw [e]
    exact none_ h
  by_cases h1 : 1 ≤ (dg w).length
  rotate_left
  · simp only [sLe_i, decide_eq_false (show ¬ (1 : Int) ≤ ((dg w).length : Nat) by omega), Bool.false_eq_true, if_false, sNot_e, Bool.not_false, if_true]
    exact bad (fun z => h1 z.1) _ rfl
  simp only [sLe_i, decide_eq_true (show (1 : Int) ≤ ((dg w).length : Nat) by omega), if_true]
  by_cases h31 : (dg w).length ≤ 31
  rotate_left
  · simp only [decide_eq_false (show ¬ (((dg w).length : Nat) : Int) ≤ 31 by omega), sNot_e, Bool.not_false, if_true]
    exact bad (fun z => h31 z.2.1) _ rfl
  simp only [decide_eq_true (show (((dg w).length : Nat) : Int) ≤ 31 by omega), sNot_e, Bool.not_true, Bool.false_eq_true, if_false]
  refine ⟨SX.S (dg w), rfl, ?_⟩
  refine comp_of (fun c : Nat => D.str ⟨#[c]⟩) (fun _ => true) (fun c => .bl (isDg c)) trivial (SX.S (dg w)).cps.toList [] (fun c _ => ⟨_, rfl, fun K h => h, fun _ K h => ?_⟩) ?_ ?_
  · refine ⟨c, _, rfl, ?_⟩
    rw [isd]
    exact h
  · have : (SX.S (dg w)).cps.toList.length = (dg w).length := by simp [SX.S]
    simp only [List.length_nil]
    show 0 + _ ≤ 16777216
    omega
  rw [List.nil_append, List.filter_eq_self.mpr (fun _ _ => rfl)]
  have et : (SX.S (dg w)).cps.toList = dg w := by simp [SX.S]
  rw [et]
  show sAll [.lst ((dg w).map fun c => D.bl (isDg c))] cs _ _
  have eb : asBools ((dg w).map fun c => D.bl (isDg c)) = some ((dg w).map isDg) := by
    have := asB_map ((dg w).map isDg)
    rw [List.map_map] at this
    exact this
  rw [sAll_e]
  show (match asBools ((dg w).map fun c => D.bl (isDg c)) with
    | some bs => _
    | none => False)
  rw [eb]
  dsimp only
  have ea : ((dg w).map isDg).all id = (dg w).all isDg := by rw [List.all_map]; rfl
  rw [ea]
  by_cases hal : (dg w).all isDg = true
  rotate_left
  · have : (dg w).all isDg = false := by simpa using hal
    simp only [this, sNot_e, Bool.not_false, if_true]
    exact bad (fun z => hal z.2.2) _ rfl
  simp only [hal, sNot_e, Bool.not_true, Bool.false_eq_true, if_false]
  have pn : pnum w = if (dg w).take 1 = [48] ∧ w ≠ [48] then none else some (if w.take 1 = [45] then -((digitsVal (dg w) : Nat) : Int) else ((digitsVal w : Nat) : Int)) := by
    unfold pnum
    rw [if_pos ⟨h1, h31, hal⟩]
  have last : ¬ ((dg w).take 1 = [48] ∧ w ≠ [48]) → wpS c_parse_number_6 [some (.str (SX.S w)), some (.str (SX.S (dg w))), none] cs { nx := fun _ cs' => Q .non cs', rt := Q, ex := fun x _ cs' => X x cs' } := fun hz => by
    rw [if_neg hz] at pn
    rw [pn] at hQ
    rw [c_parse_number_6]
    simp only [wpS, wpE, wpEs, getV]
    have hne : dg w ≠ [] := fun z => by rw [z] at h1; simp at h1
    have wl : w.length ≤ 32 := by
      unfold dg at h31
      split at h31
      · rw [List.length_drop] at h31; omega
      · omega
    by_cases hm : w.take 1 = [45]
    · rw [if_pos hm] at hQ
      have hw2 : w = 45 :: dg w := by
        cases w with
        | nil => cases hm
        | cons c r =>
          simp at hm
          subst hm
          rfl
      refine ⟨SX.S w, _, rfl, PySem.intText_neg (cs := dg w) (by show w = _; exact hw2) (all_dg hal) hne (by rw [SX.S_len]; omega), by rw [SX.S_len]; omega, hQ⟩
    · rw [if_neg hm] at hQ
      have ed : dg w = w := if_neg hm
      rw [ed] at hal hne
      refine ⟨SX.S w, _, rfl, SX.int_S hal hne (by omega), by rw [SX.S_len]; omega, hQ⟩
  rw [c_parse_number_5]
  simp only [wpS, wpE, wpEs, getV]
  obtain ⟨c, r, e⟩ : ∃ c r, dg w = c :: r := by
    cases e : dg w with
    | nil => rw [e] at h1; simp at h1
    | cons c r => exact ⟨c, r, rfl⟩
  refine .inl ⟨SX.S (dg w), 0, c, rfl, ld, ?_, ?_⟩
  · rw [et, e]
    unfold L2.atI L2.ixN
    simp
  rw [zero_S]
  show sEq [.str (SX.S [c]), .str (SX.S [48])] cs _ _
  refine eq_S (fun x hx => hd x (by rw [e]; simp at hx; simp [hx])) (show ∀ x ∈ [48], x < 0x110000 from by decide) ?_
  by_cases c48 : c = 48
  rotate_left
  · rw [decide_eq_false (show ¬ [c] = [48] from fun z => c48 (by injection z))]
    simp only [Bool.false_eq_true, if_false]
    exact last fun z => c48 (by rw [e] at z; have := z.1; simp at this; exact this)
  rw [decide_eq_true (show [c] = [48] by rw [c48])]
  simp only [if_true]
  rw [sNe_e]
  refine ⟨pur_str (k := 64) (sgn_ok hw), pur_str (k := 64) (sgn_ok (show ∀ x ∈ [48], x < 0x110000 from by decide)), ?_⟩
  show (if (!(SX.S w == SX.S [48])) = true then _ else _)
  rw [SX.S_beq_eq]
  by_cases w48 : w = [48]
  · rw [decide_eq_true w48]
    simp only [Bool.not_true, Bool.false_eq_true, if_false]
    exact last fun z => z.2 w48
  · rw [decide_eq_false w48]
    simp only [Bool.not_false, if_true]
    rw [c_parse_number_4]
    simp only [wpS, wpE]
    rw [pn, if_pos ⟨by rw [e, c48]; rfl, w48⟩] at hQ
    exact hQ
theorem ok_pnm : okFn 3 c_parse_number spPNm := by
  rintro ds cs Q X ⟨w, rfl, hw, hl, hQ⟩
  show wpS (.seq c_parse_number_1 (.seq c_parse_number_3 (.seq c_parse_number_5 c_parse_number_6))) [some (.str (SX.S w)), none, none] cs _
  have r := pn_rest (X := X) hw hl hQ
  simp only [wpS] at r ⊢
  rw [c_parse_number_1]
  simp only [wpS, wpE, wpEs, getV]
  have lim1 : (SX.S w).length ≤ 16777216 := by rw [SX.S_len]; omega
  refine ⟨_, _, rfl, lim1, ?_⟩
  rw [SX.slice_to (by decide), dash_S]
  refine eq_S (sgn_sub hw fun c hc => List.mem_of_mem_take hc) (show ∀ c ∈ [45], c < 0x110000 from by decide) ?_
  by_cases h : w.take 1 = [45]
  · rw [decide_eq_true (show w.take (1 : Int).toNat = [45] from h)]
    simp only [if_true]
    refine ⟨_, _, rfl, lim1, ?_⟩
    rw [SX.slice_from (by decide)]
    simp only [bindP, List.set]
    have e : dg w = w.drop 1 := if_pos h
    rw [e] at r
    exact r
  · rw [decide_eq_false (show ¬ w.take (1 : Int).toNat = [45] from h)]
    simp only [Bool.false_eq_true, if_false]
    simp only [bindP, List.set]
    have e : dg w = w := if_neg h
    rw [e] at r
    exact r
end G

namespace G
open PySem (Str)
open PySem.NumText
theorem ne_S {a b : List Nat} {cs : Cs} {Q : KD} {X : KX} (ha : sgn a) (hb : sgn b) (h : Q (.bl (!decide (a = b))) cs) : sNe [.str (SX.S a), .str (SX.S b)] cs Q X := by
  rw [sNe_e]
  refine ⟨pur_str (k := 64) (sgn_ok ha), pur_str (k := 64) (sgn_ok hb), ?_⟩
  show Q (.bl (!(SX.S a == SX.S b))) cs
  rw [SX.S_beq_eq]
  exact h
end G

namespace G
open PySem (Str)
open PySem.NumText
theorem space_S : (" " : Str) = SX.S [32] := by decide +kernel
end G

namespace G
open PySem (Str)
open PySem.NumText
end G

namespace G
open PySem (Str)
open PySem.NumText
theorem S_nil : ("" : Str) = SX.S [] := by decide +kernel
end G

/-! GTxI: the texts of forests: one forest for a text; texts of no forest, told by computing. -/
namespace G
open PySem (Str)
end G

/-! GRdP: the reader of histories as a function of the text that is left. -/
namespace G
open PySem (Str)
inductive Rst where
  | nd (i : Int)
  | lk (a b : Int)
  | rp (c : Int) (ss : List Rst)
mutual
def rsD : Rst → D
  | .nd i => .int i
  | .lk a b => .tup [.str "link", .int a, .int b]
  | .rp c ss => .tup [.str "repeat", .int c, .tup (rsDs ss)]
def rsDs : List Rst → List D
  | [] => []
  | s :: r => rsD s :: rsDs r
end
theorem rsDs_map : ∀ ss : List Rst, rsDs ss = ss.map rsD
  | [] => by simp [rsDs]
  | s :: ss => by rw [rsDs, rsDs_map ss]; rfl
def isSp (c : Nat) : Bool := decide (c ∈ [32, 40, 41, 42, 62])
def wrdN (r : List Nat) : List Nat := r.takeWhile fun c => !isSp c
def rstN (r : List Nat) : List Nat := r.dropWhile fun c => !isSp c
theorem wrd_rst (r : List Nat) : wrdN r ++ rstN r = r := List.takeWhile_append_dropWhile
theorem rst_drop (r : List Nat) : r.drop (wrdN r).length = rstN r := by
  have := List.drop_left (l₁ := wrdN r) (l₂ := rstN r)
  rwa [wrd_rst] at this
theorem wrd_take (r : List Nat) : r.take (wrdN r).length = wrdN r := by
  have := List.take_left (l₁ := wrdN r) (l₂ := rstN r)
  rwa [wrd_rst] at this
def rdN (r : List Nat) : Option (Int × List Nat) := match pnum (wrdN r) with
  | none => none
  | some i => some (i, rstN r)
def rdS (f : Option (List Nat → Option (List Rst × List Nat))) (r : List Nat) : Option (Rst × List Nat) := match rdN r with
  | none => none
  | some (i, r1) => if r1.take 1 = [62] then (match rdN (r1.drop 1) with
      | none => none
      | some (j, r3) => some (.lk i j, r3))
    else if r1.take 1 = [42] then (match f with
      | none => none
      | some g => if (r1.drop 1).take 1 = [40] then (match g ((r1.drop 1).drop 1) with
          | none => none
          | some (ss, r4) => if r4.take 1 = [41] then some (.rp i ss, r4.drop 1) else none) else none)
    else some (.nd i, r1)
def rdM (st : List Nat → Option (Rst × List Nat)) : Nat → List Rst → List Nat → Option (List Rst × List Nat)
  | 0, _, _ => none
  | n + 1, acc, r => if r.take 1 = [32] then (match st (r.drop 1) with
      | none => none
      | some (s, r') => rdM st n (acc ++ [s]) r') else some (acc, r)
def rdTs (st : List Nat → Option (Rst × List Nat)) (r : List Nat) : Option (List Rst × List Nat) :=
  if r.take 1 = [] ∨ r.take 1 = [41] then some ([], r) else match st r with
    | none => none
    | some (s, r') => rdM st (r'.length + 1) [s] r'
def rdLs : Nat → List Nat → Option (List Rst × List Nat)
  | 0 => rdTs (rdS none)
  | k + 1 => rdTs (rdS (some (rdLs k)))
/-- the step's reader with k levels left -/
def rdK : Nat → List Nat → Option (Rst × List Nat)
  | 0 => rdS none
  | k + 1 => rdS (some (rdLs k))
theorem rdLs_eq : ∀ k r, rdLs k r = rdTs (rdK k) r
  | 0, _ => rfl
  | _ + 1, _ => rfl
/-! ### what is left is an end of the text, and shorter -/
theorem pnum_ne {w : List Nat} {i : Int} (h : pnum w = some i) : w ≠ [] := fun z => by
  subst z
  unfold pnum dg at h
  simp at h
theorem rdN_suf {r r' : List Nat} {i : Int} (h : rdN r = some (i, r')) : r' <:+ r ∧ r'.length < r.length := by
  unfold rdN at h
  cases e : pnum (wrdN r) with
  | none => rw [e] at h; cases h
  | some j =>
    rw [e] at h
    simp only [Option.some.injEq, Prod.mk.injEq] at h
    obtain ⟨_, rfl⟩ := h
    have := List.length_pos_iff.mpr (pnum_ne e)
    have l : (wrdN r).length + (rstN r).length = r.length := by
      conv => rhs; rw [← wrd_rst r]
      simp
    exact ⟨⟨wrdN r, wrd_rst r⟩, by omega⟩
theorem drop_suf {r : List Nat} (n : Nat) : r.drop n <:+ r := List.drop_suffix n r
def SufL (g : List Nat → Option (List Rst × List Nat)) : Prop := ∀ r ss r', g r = some (ss, r') → r' <:+ r
def SufS (g : List Nat → Option (Rst × List Nat)) : Prop := ∀ r s r', g r = some (s, r') → r' <:+ r ∧ r'.length < r.length
theorem drop_lt {r : List Nat} {c : Nat} (h : r.take 1 = [c]) : (r.drop 1).length < r.length := by
  cases r with
  | nil => simp at h
  | cons a r => simp
theorem rdS_suf {f : Option (List Nat → Option (List Rst × List Nat))} (hf : ∀ g, f = some g → SufL g) : SufS (rdS f) := by
  intro r s r' h
  unfold rdS at h
  cases e : rdN r with
  | none => rw [e] at h; cases h
  | some q =>
    obtain ⟨i, r1⟩ := q
    rw [e] at h
    obtain ⟨s1, l1⟩ := rdN_suf e
    dsimp only at h
    split at h
    · rename_i h62
      cases e2 : rdN (r1.drop 1) with
      | none => rw [e2] at h; cases h
      | some q2 =>
        obtain ⟨j, r3⟩ := q2
        rw [e2] at h
        simp only [Option.some.injEq, Prod.mk.injEq] at h
        obtain ⟨_, rfl⟩ := h
        obtain ⟨s2, l2⟩ := rdN_suf e2
        have := drop_lt h62
        exact ⟨(s2.trans (drop_suf 1)).trans s1, by omega⟩
    · split at h
      · rename_i h42
        cases f with
        | none => cases h
        | some g =>
          dsimp only at h
          split at h
          · cases e3 : g ((r1.drop 1).drop 1) with
            | none => rw [e3] at h; cases h
            | some q3 =>
              obtain ⟨ss, r4⟩ := q3
              rw [e3] at h
              dsimp only at h
              split at h
              · simp only [Option.some.injEq, Prod.mk.injEq] at h
                obtain ⟨_, rfl⟩ := h
                have s3 := hf g rfl _ _ _ e3
                have l4 : r4.length ≤ ((r1.drop 1).drop 1).length := s3.length_le
                refine ⟨(((drop_suf 1).trans s3).trans ((drop_suf 1).trans (drop_suf 1))).trans s1, ?_⟩
                simp only [List.length_drop] at l4 ⊢
                omega
              · cases h
          · cases h
      · simp only [Option.some.injEq, Prod.mk.injEq] at h
        obtain ⟨_, rfl⟩ := h
        exact ⟨s1, l1⟩
theorem rdM_suf {st : List Nat → Option (Rst × List Nat)} (hs : SufS st) : ∀ (n : Nat) (acc : List Rst) (r : List Nat) (ss : List Rst) (r' : List Nat), rdM st n acc r = some (ss, r') → r' <:+ r
  | 0, _, _, _, _, h => by cases h
  | n + 1, acc, r, ss, r', h => by
    unfold rdM at h
    split at h
    · cases e : st (r.drop 1) with
      | none => rw [e] at h; cases h
      | some q =>
        obtain ⟨s, r2⟩ := q
        rw [e] at h
        exact ((rdM_suf hs n _ _ _ _ h).trans (hs _ _ _ e).1).trans (drop_suf 1)
    · simp only [Option.some.injEq, Prod.mk.injEq] at h
      obtain ⟨_, rfl⟩ := h
      exact List.suffix_refl _
theorem rdTs_suf {st : List Nat → Option (Rst × List Nat)} (hs : SufS st) : SufL (rdTs st) := by
  intro r ss r' h
  unfold rdTs at h
  split at h
  · simp only [Option.some.injEq, Prod.mk.injEq] at h
    obtain ⟨_, rfl⟩ := h
    exact List.suffix_refl _
  · cases e : st r with
    | none => rw [e] at h; cases h
    | some q =>
      obtain ⟨s, r2⟩ := q
      rw [e] at h
      exact (rdM_suf hs _ _ _ _ _ h).trans (hs _ _ _ e).1
theorem rdLs_suf : ∀ k, SufL (rdLs k)
  | 0 => rdTs_suf (rdS_suf fun _ z => by cases z)
  | k + 1 => rdTs_suf (rdS_suf fun g z => by cases z; exact rdLs_suf k)
theorem rdK_suf : ∀ k, SufS (rdK k)
  | 0 => rdS_suf (f := none) fun _ z => by cases z
  | k + 1 => rdS_suf (f := some (rdLs k)) fun g z => by cases z; exact rdLs_suf k
/-! ### slices -/
theorem suf_drop {r t : List Nat} (h : r <:+ t) : t.drop (t.length - r.length) = r := by
  obtain ⟨a, rfl⟩ := h
  simp
theorem slice_one {t r : List Nat} (h : r <:+ t) : PySem.Txt.slice (SX.S t) (some ((t.length - r.length : Nat) : Int)) (some ((t.length - r.length : Nat) + 1 : Int)) = SX.S (r.take 1) := by
  have hl := h.length_le
  cases r with
  | nil =>
    have e2 : PySem.Txt.slice (SX.S t) (some ((t.length - 0 : Nat) : Int)) (some ((t.length - 0 : Nat) + 1 : Int)) = PySem.Txt.slice (SX.S t) (some ((t.length - 0 : Nat) : Int)) (some (t.length : Int)) := by
      unfold PySem.Txt.slice
      rw [SX.S_len, SX.idx_hi (by omega)]
    have e := beq_iff_eq.mp (PyProof.Rows.slice_closesL (x := SX.S t) (i := (t.length - 0 : Nat)) (j := (t.length : Int)) (by omega) (by omega) (by rw [SX.S_len]; omega))
    refine (e2.trans e).trans (TL.ext_tl ?_)
    show (t.drop _).take _ = []
    rw [List.drop_of_length_le (by omega)]
    simp
  | cons c r =>
    simp only [List.length_cons] at hl ⊢
    have e := beq_iff_eq.mp (PyProof.Rows.slice_closesL (x := SX.S t) (i := ((t.length - (r.length + 1) : Nat) : Int)) (j := ((t.length - (r.length + 1) : Nat) + 1 : Int)) (by omega) (by omega) (by rw [SX.S_len]; omega))
    refine e.trans (TL.ext_tl ?_)
    have d := suf_drop h
    simp only [List.length_cons] at d
    show (t.drop (((t.length - (r.length + 1) : Nat) : Int)).toNat).take (((t.length - (r.length + 1) : Nat) + 1 : Int) - ((t.length - (r.length + 1) : Nat) : Int)).toNat = [c]
    rw [show (((t.length - (r.length + 1) : Nat) : Int)).toNat = t.length - (r.length + 1) by omega, d, show (((t.length - (r.length + 1) : Nat) + 1 : Int) - ((t.length - (r.length + 1) : Nat) : Int)).toNat = 1 by omega]
    rfl
theorem slice_two {t r r2 : List Nat} (h : r <:+ t) (k : r2 <:+ r) : PySem.Txt.slice (SX.S t) (some ((t.length - r.length : Nat) : Int)) (some ((t.length - r2.length : Nat) : Int)) = SX.S (r.take (r.length - r2.length)) := by
  have hl := h.length_le
  have kl := k.length_le
  have e := beq_iff_eq.mp (PyProof.Rows.slice_closesL (x := SX.S t) (i := ((t.length - r.length : Nat) : Int)) (j := ((t.length - r2.length : Nat) : Int)) (by omega) (by omega) (by rw [SX.S_len]; omega))
  refine e.trans (TL.ext_tl ?_)
  show (t.drop (((t.length - r.length : Nat) : Int)).toNat).take _ = _
  rw [show (((t.length - r.length : Nat) : Int)).toNat = t.length - r.length by omega, suf_drop h]
  congr 1
  omega
end G

/-! GPair: paths in forests held as lists; parents exchanged; needed nodes one by one; ways counted. -/
namespace G
open PySem (Str)
/-- a forest however held -/
structure At (cs : Cs) (x : D) (p : List Nat) : Prop where
  str : ∀ s, x ≠ .str s
  q : ∀ c, Le cs c → getQ x c = some (nI p)
theorem At.fD {cs : Cs} {p : List Nat} : At cs (fD p) p := ⟨fD_str, fun _ _ => rfl⟩
theorem At.cell {cs : Cs} {n : Nat} {p : List Nat} (h : cs n = some (.lst (nI p))) : At cs (.ref n) p := ⟨fun s e => (by cases e), fun c le => getQ_cell (le n _ h)⟩
/-! ### a parent exchanged -/
end G

/-! GPairX: pairs that may not fit; ways that may be barred. -/
namespace G
open PySem (Str)
end G

/-! GPairY: rooted pairs, count_ways, is_needed. -/
namespace G
theorem Pair.trans {p q s : List Nat} (a : Pair p q) (b : Pair q s) : Pair p s := ⟨b.len.trans a.len, fun i hi => (a.rts i hi).trans (b.rts i (by rw [a.len]; exact hi))⟩
theorem Pair.refl {p : List Nat} : Pair p p := ⟨rfl, fun _ _ => Iff.rfl⟩
/-! ### counted, one by one -/
/-! ### needed_finds, its result in a cell -/
end G

/-! GPairZ: count_ways, way_cost, is_needed, bar_holds with errors; the barring pairs. -/
namespace G
/-! ### bars -/
end G

/-! GTree: the roots in a list; a forest flattened; equal lists. -/
namespace G
end G

/-! GStoR: run_history with one kind of a bad history. -/
namespace G
open PySem (Str)
/-- a history whose first step is an unknown tuple -/
def rdT : D := .tup [.str "round", .int 1, .tup []]
def bdR (x : D) (cs : Cs) : Prop := getQ x cs = some [rdT]
def spCTgR : Spec := fun ds cs Q X => spCT ds cs Q X ∨ (∃ k pos : Int, ds = [rdT, .int k, .int pos] ∧ X (er "BadStep" "pos" (.int pos)) cs)
theorem ok_ctgR : okFn 3 c_check_tupleX spCTgR := by
  rintro ds cs Q X (h | ⟨k, pos, rfl, hX⟩)
  · exact ok_ctX _ _ _ _ h
  show wpS (.seq c_check_tupleX_2 (.seq c_check_tupleX_4 c_check_tupleX_6)) [some rdT, some (.int k), some (.int pos)] cs _
  simp only [wpS]
  rw [c_check_tupleX_2]
  have e1 : ∀ (Q : KD) (X : KX), sIx [rdT, .int 0] cs Q X = Q (.str "round") cs := fun _ _ => rfl
  have e2 : ∀ (Q : KD) (X : KX), sLen [rdT] cs Q X = Q (.int 3) cs := fun _ _ => rfl
  have e3 : ∀ (Q : KD) (X : KX), sNotIn [.str "round", .tup [.str "link", .str "repeat"]] cs Q X = Q (.bl true) cs := fun Q X => by
    show (flat (.str "round") = true ∧ ([.str "link", .str "repeat"] : List D).all flat = true ∧ Q (.bl (!inD (.str "round") [.str "link", .str "repeat"])) cs) = _
    have f1 : flat (.str "round") = true := by decide +kernel
    have f2 : ([.str "link", .str "repeat"] : List D).all flat = true := by decide +kernel
    have f3 : inD (.str "round") [.str "link", .str "repeat"] = false := by decide +kernel
    rw [f1, f2, f3]
    simp
  simp only [wpS, wpE, wpEs, getV, e1, e2, sNe_i, sTup_e]
  simp
  refine ⟨by decide, ?_⟩
  rw [e3]
  simp
  rw [c_check_tupleX_1]
  simp
  exact hX
def spCSgR : Nat → Spec
  | 0 => fun _ _ _ _ => False
  | i + 1 => fun ds cs Q X => spCS (i + 1) ds cs Q X ∨ (∃ x, ds = [x, .int 0, .int 0] ∧ bdR x cs ∧ X (er "BadStep" "pos" (.int 0)) cs)
theorem spCSg_eR {i : Nat} {x : D} {ss : List Stp} {k pos : Nat} {cs : Cs} {Q : KD} {X : KX} (hx : getQ x cs = some (stDs ss)) (hv : vlL k ss) (hw : pos + wrL ss ≤ 100) (hd : dpL ss < i) (hQ : Q (.int (pos + wrL ss : Nat)) cs) : spCSgR i [x, .int (k : Nat), .int (pos : Nat)] cs Q X := by
  cases i with
  | zero => omega
  | succ i => exact .inl ⟨x, ss, k, pos, rfl, hx, hv, hw, by omega, hQ⟩
theorem ok_csgR (i : Nat) : okFn 4 (c_check_stepsX (spCSgR i) spCTgR) (spCSgR (i + 1)) := by
  rintro ds cs Q X (⟨x, ss, k, pos, rfl, hx, hv, hw, hd, hQ⟩ | ⟨x, rfl, hb, hX⟩)
  rotate_left
  · show wpS (.seq (c_check_stepsX_8 (spCSgR i) spCTgR) (c_check_stepsX_9 (spCSgR i) spCTgR)) [some x, some (.int 0), some (.int 0), none] cs _
    simp only [wpS]
    rw [c_check_stepsX_8]
    simp only [wpS, wpE, wpEs, getV]
    refine iSeq_q hb ⟨grdL_self, ?_⟩
    simp only [bindP, List.set]
    rw [c_check_stepsX_2]
    simp only [wpS, wpE, wpEs, getV, sEq_i]
    simp
    rw [c_check_stepsX_3]
    simp only [wpS, wpE, wpEs, getV, sIAdd_e, bindP, List.set]
    rw [c_check_stepsX_7]
    simp only [wpS, wpE, wpEs, getV]
    have e : ∀ (Q : KD) (X : KX), sIsi .int [rdT] cs Q X = Q (.bl false) cs := fun _ _ => rfl
    rw [e]
    simp
    rw [c_check_stepsX_4]
    simp only [wpS, wpE, wpEs, getV, sSub_i]
    exact .inr ⟨_, _, rfl, hX⟩
  show wpS (.seq (c_check_stepsX_8 (spCSgR i) spCTgR) (c_check_stepsX_9 (spCSgR i) spCTgR)) [some x, some (.int (k : Nat)), some (.int (pos : Nat)), none] cs _
  simp only [wpS]
  rw [c_check_stepsX_8]
  simp only [wpS, wpE, wpEs, getV]
  refine iSeq_q hx (forL_rest (fun rest σ c => c = cs ∧ ∃ (q : Nat) (a : Option D), σ = [some x, some (.int (k : Nat)), some (.int (q : Nat)), a] ∧ vlL k rest ∧ q + wrL rest = pos + wrL ss ∧ dpL rest ≤ i) (fun _ _ _ h => by rw [h.1]; exact grdL_self) ?_ ?_ ss ⟨rfl, pos, _, rfl, hv, rfl, hd⟩)
  · rintro s rest σ c ⟨rfl, q, a, rfl, hv, hw', hd⟩ K' h1 h2 h3
    clear h2 h3
    simp only [vlL] at hv
    simp only [wrL] at hw'
    simp only [dpL] at hd
    have ws := wrS_pos s
    simp only [wpS, List.set]
    rw [c_check_stepsX_2]
    have e0 : (((q : Nat) : Int) == 100) = false := by
      rw [beq_eq_false_iff_ne]
      omega
    simp only [wpS, wpE, wpEs, getV, sEq_i, e0, Bool.false_eq_true, if_false]
    rw [c_check_stepsX_3]
    simp only [wpS, wpE, wpEs, getV, sIAdd_e, bindP, List.set]
    rw [c_check_stepsX_7]
    simp only [wpS, wpE, wpEs, getV, isi_st, sNot_e]
    cases s with
    | nd j =>
      simp only [wrS] at hw'
      simp
      exact h1 _ _ ⟨rfl, q + 1, _, rfl, hv.2, by omega, by omega⟩
    | lk b d =>
      simp only [wrS] at hw'
      simp only [Bool.not_false, if_true]
      rw [c_check_stepsX_4]
      simp only [wpS, wpE, wpEs, getV, sSub_i]
      refine .inl ⟨_, _, _, rfl, ⟨k, rfl, hv.1⟩, ?_, ?_⟩
      · intro i e
        cases e
      rw [c_check_stepsX_6]
      simp only [wpS, wpE, wpEs, getV, stD, sIx_e, getQ, ix3_0, strE_e ok_lkS ok_rpS, lr2, Bool.false_eq_true, if_false]
      exact h1 _ _ ⟨rfl, q + 1, _, rfl, hv.2, by omega, by omega⟩
    | rp n b us =>
      simp only [wrS] at hw'
      simp only [dpS] at hd
      simp only [Bool.not_false, if_true]
      rw [c_check_stepsX_4]
      simp only [wpS, wpE, wpEs, getV, sSub_i]
      refine .inl ⟨_, _, _, rfl, ⟨k, rfl, hv.1⟩, ?_, ?_⟩
      · intro i e
        cases e
      rw [c_check_stepsX_6]
      simp only [wpS, wpE, wpEs, getV, stD, sIx_e, getQ, ix3_0, strE_e ok_rpS ok_rpS, lr4, if_true]
      rw [c_check_stepsX_5]
      have hu : k < 4 ∧ n ≤ 10 ^ 30 ∧ vlL (k + 1) us := by
        have := hv.1
        simp only [vlS] at this
        exact this
      simp only [wpS, wpE, wpEs, getV, sIx_e, getQ, ix3_2, sAdd_i, bindP, List.set]
      have ek : ((k : Nat) : Int) + 1 = ((k + 1 : Nat) : Int) := by omega
      have eq' : ((q : Nat) : Int) + 1 = ((q + 1 : Nat) : Int) := by omega
      rw [ek, eq']
      refine spCSg_eR sqD_q hu.2.2 (by omega) (by omega) ?_
      exact h1 _ _ ⟨rfl, q + 1 + wrL us, _, rfl, hv.2, by omega, by omega⟩
  · rintro σ c ⟨rfl, q, a, rfl, hv, hw', hd⟩
    rw [c_check_stepsX_9]
    simp only [wpS, wpE, getV]
    have : q = pos + wrL ss := by simpa [wrL] using hw'
    rw [this]
    exact hQ
def spCHgR : Spec := fun ds cs Q X => spCH ds cs Q X ∨ (∃ x, ds = [x] ∧ bdR x cs ∧ X (er "BadStep" "pos" (.int 0)) cs)
theorem ok_chHR : okFn 1 (c_check_history (spCSgR 5)) spCHgR := by
  rintro ds cs Q X (⟨x, ss, rfl, hx, hv, hw, hQ⟩ | ⟨x, rfl, hb, hX⟩)
  · show wpS (c_check_history_1 (spCSgR 5)) [some x] cs _
    rw [c_check_history_1]
    simp only [wpS, wpE, wpEs, getV]
    have := dpL_le 0 ss hv (by decide)
    exact spCSg_eR (k := 0) (pos := 0) hx hv (by omega) (by omega) hQ
  · show wpS (c_check_history_1 (spCSgR 5)) [some x] cs _
    rw [c_check_history_1]
    simp only [wpS, wpE, wpEs, getV]
    exact .inr ⟨x, rfl, hb, hX⟩
/-- the history of a command: valid, or one that begins with an unknown tuple -/
inductive Hst where
  | ok (ss : List Stp)
  | bad
def HstD (x : D) (cs : Cs) : Hst → Prop
  | .ok ss => getQ x cs = some (stDs ss) ∧ vlL 0 ss ∧ wrL ss ≤ 100
  | .bad => bdR x cs
abbrev R1 := Except Er (List Nat × Nat)
end G

/-! GChk: check_forest with its errors. -/
namespace G
end G

/-! GWays: the flattened forest; deep nodes; the finds that flatten. -/
namespace G
end G

/-! GUni: unite. -/
namespace G
open PySem (Str)
end G

/-! GStoC: the commands of a store. -/
namespace G
open PySem (Str)
inductive Cmd where
  | new (x : Str) (q : List Int)
  | copy (x y : Str)
  | swap (x y : Str)
  | drop (x : Str)
  | flat (x : Str)
  | find (x : Str) (i : Int)
  | run (x : Str) (h : Hst)
  | grow (x : Str) (k : Int)
  | link (x : Str) (c a : Int)
  | unite (x : Str) (i j : Int)
  | bad (w : Option Str)
structure FmOk (m : FM) : Prop where
  len : m.length ≤ 6
  nd : (m.map (·.1)).Nodup
  nm : ∀ p ∈ m, isNm p.1 = true
  fo : ∀ p ∈ m, FoOk p.2 ∧ p.2.length ≤ 40
/-! what stays -/
theorem letters_ok : lettersS.cps.toList.all (fun c => decide (c < 0x110000)) = true := by decide +kernel
theorem isNm_ok {x : Str} (h : isNm x = true) : strOk x = true := by
  unfold isNm at h
  simp only [Bool.and_eq_true, decide_eq_true_eq, List.all_eq_true] at h
  unfold strOk
  rw [← Array.all_toList, List.all_eq_true]
  intro c hc
  have h1 := h.2 c hc
  have := List.all_eq_true.mp letters_ok c h1
  exact this
theorem FmOk.str {m : FM} (h : FmOk m) : ∀ p ∈ m, strOk p.1 = true := fun p hp => isNm_ok (h.nm p hp)
theorem FmOk.at_ {m : FM} (h : FmOk m) {x : Str} {q : List Nat} (e : lku m x = some q) : FoOk q ∧ q.length ≤ 40 := h.fo _ (lku_some e)
theorem FmOk.name {m : FM} (h : FmOk m) {x : Str} {q : List Nat} (e : lku m x = some q) : isNm x = true := h.nm _ (lku_some e)
end G

/-! GMarkX: marked nodes and what stands on them, where nodes may be strange. -/
namespace G
open PySem (Str)
end G

/-! GStoD: what the commands promise. -/
namespace G
open PySem (Str)
end G

/-! GStoE: check_command, changed_forest, apply_command. -/
namespace G
open PySem (Str)
def HstT (h : D) : Hst → Prop
  | .ok ss => isSeq h (stDs ss) ∧ vlL 0 ss ∧ wrL ss ≤ 100
  | .bad => isSeq h [rdT]
theorem HstT.at_ {h : D} {H : Hst} (a : HstT h H) (cs : Cs) : HstD h cs H := by
  cases H with
  | ok ss => exact ⟨a.1.q, a.2⟩
  | bad => exact isSeq.q a
structure nmOk (x : Str) : Prop where
  ok : strOk x = true
  len : x.length ≤ lim
def aryL : List (Str × Int) := [("new", 2), ("copy", 2), ("swap", 2), ("drop", 1), ("flatten", 1), ("find", 2), ("run", 2), ("grow", 2), ("link", 3), ("unite", 3)]
def ary (w : Str) : Int := (aryL.lookup w).getD (-1)
def CmdD (d : D) : Cmd → Prop
  | .new x q => d = .tup [.str "new", .str x, .tup (iDs q)] ∧ nmOk x ∧ q.length ≤ 1000
  | .copy x y => d = .tup [.str "copy", .str x, .str y] ∧ nmOk x ∧ nmOk y
  | .swap x y => d = .tup [.str "swap", .str x, .str y] ∧ nmOk x ∧ nmOk y
  | .drop x => d = .tup [.str "drop", .str x] ∧ nmOk x
  | .flat x => d = .tup [.str "flatten", .str x] ∧ nmOk x
  | .find x i => d = .tup [.str "find", .str x, .int i] ∧ nmOk x
  | .run x H => ∃ h, d = .tup [.str "run", .str x, h] ∧ nmOk x ∧ HstT h H
  | .grow x i => d = .tup [.str "grow", .str x, .int i] ∧ nmOk x
  | .link x i j => d = .tup [.str "link", .str x, .int i, .int j] ∧ nmOk x
  | .unite x i j => d = .tup [.str "unite", .str x, .int i, .int j] ∧ nmOk x
  | .bad none => d = .tup []
  | .bad (some w) => ∃ ys, d = .tup (.str w :: ys) ∧ ary w ≠ (ys.length : Nat)
def chkC : Cmd → Option Er
  | .bad none => some (er "BadCommand" "word" .non)
  | .bad (some w) => some (er "BadCommand" "word" (.str w))
  | _ => none
/-- a command's word and things -/
theorem CmdD.split {d : D} {c : Cmd} (h : CmdD d c) (hc : chkC c = none) : ∃ w ys, d = .tup (.str w :: ys) ∧ ary w = (ys.length : Nat) := by
  cases c with
  | new x q => exact ⟨_, _, h.1, (show ary "new" = 2 by decide +kernel)⟩
  | copy x q => exact ⟨_, _, h.1, (show ary "copy" = 2 by decide +kernel)⟩
  | swap x q => exact ⟨_, _, h.1, (show ary "swap" = 2 by decide +kernel)⟩
  | drop x => exact ⟨_, _, h.1, (show ary "drop" = 1 by decide +kernel)⟩
  | flat x => exact ⟨_, _, h.1, (show ary "flatten" = 1 by decide +kernel)⟩
  | find x i => exact ⟨_, _, h.1, (show ary "find" = 2 by decide +kernel)⟩
  | run x H =>
    obtain ⟨z, e, _⟩ := h
    exact ⟨_, _, e, (show ary "run" = 2 by decide +kernel)⟩
  | grow x i => exact ⟨_, _, h.1, (show ary "grow" = 2 by decide +kernel)⟩
  | link x i j => exact ⟨_, _, h.1, (show ary "link" = 3 by decide +kernel)⟩
  | unite x i j => exact ⟨_, _, h.1, (show ary "unite" = 3 by decide +kernel)⟩
  | bad w => cases w <;> cases hc
/-! changed_forest -/
/-! apply_command -/
end G

/-! GStoF: stores as cells: their attributes; a step. -/
namespace G
open PySem (Str)
/-- watches: number, name, node, the value told last -/
abbrev WM := List (Nat × Str × Int × Option (Nat × Nat))
def plD : Option (Nat × Nat) → D
  | none => .non
  | some (r, d) => .tup [.int (r : Nat), .int (d : Nat)]
def watD (q : Str × Int × Option (Nat × Nat)) : D := .tup [.str q.1, .int q.2.1, plD q.2.2]
def wL (ws : WM) : DL := ws.map fun p => (.inl (p.1 : Int), watD p.2)
structure StV where
  fo : FM
  sp : Nat
  past : List (FM × Nat)
  later : List (FM × Nat)
  w : WM
  made : Nat
def stF (f s p l w m : D) : Fs := [("forests", f), ("spent", s), ("past", p), ("later", l), ("watches", w), ("made", m)]
def entD (e : FM × Nat) : D := .tup [foD e.1, .int (e.2 : Nat)]
section
variable {f s p l w m v u : D}
end
/-- at n a store, its lists at a and b, its watches at w -/
structure StoAt (C : Nat) (cs : Cs) (n a b w : Nat) (V : StV) : Prop where
  at_ : cs n = some (.ins C (stF (foD V.fo) (.int (V.sp : Nat)) (.ref a) (.ref b) (.ref w) (.int (V.made : Nat))))
  pa : cs a = some (.lst (V.past.map entD))
  la : cs b = some (.lst (V.later.map entD))
  wa : cs w = some (dicO (wL V.w))
  ne : a ≠ b
section
variable {C n a b w : Nat} {V : StV} {cs : Cs}
theorem StoAt.na (h : StoAt C cs n a b w V) : n ≠ a := fun z => by have := h.at_; rw [z, h.pa] at this; cases this
end
theorem StoAt.keep {C n a b w : Nat} {V : StV} {own : List Nat} {cs cs' : Cs} (h : StoAt C cs n a b w V) (k : Kp own cs cs') (hn : n ∉ own) (ha : a ∉ own) (hb : b ∉ own) (hw : w ∉ own) : StoAt C cs' n a b w V :=
  ⟨k.at_ h.at_ hn, k.at_ h.pa ha, k.at_ h.la hb, k.at_ h.wa hw, h.ne⟩
/-! several commands -/
inductive CmdsD : List D → List Cmd → Prop
  | nil : CmdsD [] []
  | cons {d : D} {c : Cmd} {ds : List D} {l : List Cmd} (h : CmdD d c) (r : CmdsD ds l) : CmdsD (d :: ds) (c :: l)
theorem CmdsD.len {ds : List D} {l : List Cmd} (h : CmdsD ds l) : ds.length = l.length := by
  induction h with
  | nil => rfl
  | cons _ _ ih => simp [ih]
/-- amid the commands: the store's forests, the list of costs at k -/
structure Mid (C n k : Nat) (A B W M : D) (cs c : Cs) (m : FM) (s : Nat) (ts : List Nat) : Prop where
  st : c n = some (.ins C (stF (foD m) (.int (s : Nat)) A B W M))
  co : c k = some (.lst (nI ts))
  el : ∀ j, j ≠ n → j ≠ k → c j = cs j
end G

/-! GRdW: the methods of the reader. -/
namespace G
open PySem (Str)
/-- a reader of the text t with r left, so deep -/
def rdr (C : Nat) (t r : List Nat) (d : Int) : Ob := .ins C [("text", .str (SX.S t)), ("at", .int ((t.length - r.length : Nat) : Int)), ("nesting", .int d)]
theorem intId_e {i : Int} {cs : Cs} {Q : KD} {X : KX} (hQ : Q (.int i) cs) : sIntId [.int i] cs Q X := hQ
structure RdAt (C n : Nat) (t r : List Nat) (d : Int) (cs : Cs) : Prop where
  at_ : cs n = some (rdr C t r d)
  suf : r <:+ t
  sg : sgn t
  len : t.length ≤ 100000
def perr : Er := er "ParseError" "pos" (.int 0)
section
variable {C n : Nat} {t r : List Nat} {d : Int} {cs : Cs}
theorem RdAt.tx (h : RdAt C n t r d cs) {Q : KD} {X : KX} (hQ : Q (.str (SX.S t)) cs) : sFld C "text" [.ref n] cs Q X := ⟨n, _, _, rfl, h.at_, rfl, hQ⟩
theorem RdAt.pos (h : RdAt C n t r d cs) {Q : KD} {X : KX} (hQ : Q (.int ((t.length - r.length : Nat) : Int)) cs) : sFld C "at" [.ref n] cs Q X := ⟨n, _, _, rfl, h.at_, rfl, hQ⟩
theorem RdAt.nst (h : RdAt C n t r d cs) {Q : KD} {X : KX} (hQ : Q (.int d) cs) : sFld C "nesting" [.ref n] cs Q X := ⟨n, _, _, rfl, h.at_, rfl, hQ⟩
theorem RdAt.chk (h : RdAt C n t r d cs) {m : Str} (hm : ∀ u v w : D, ([("text", u), ("at", v), ("nesting", w)] : Fs).lookup m = none) : chkI C m (.ref n) cs := ⟨n, _, rfl, h.at_, hm _ _ _⟩
theorem RdAt.mv (h : RdAt C n t r d cs) {r' : List Nat} (hs : r' <:+ r) {d' : Int} : RdAt C n t r' d' (put cs n (rdr C t r' d')) := ⟨put_same, hs.trans h.suf, h.sg, h.len⟩
theorem RdAt.kp {cs' : Cs} (h : RdAt C n t r d cs) (k : Kp [] cs cs') : RdAt C n t r d cs' := ⟨k.at_ h.at_ (by simp), h.suf, h.sg, h.len⟩
theorem sgn_take {a : List Nat} (h : sgn a) (i : Nat) : sgn (a.take i) := sgn_sub h fun c hc => List.mem_of_mem_take hc
theorem sgn_suf {a b : List Nat} (h : sgn a) (hs : b <:+ a) : sgn b := sgn_sub h fun c hc => hs.subset hc
theorem Kp.put1 {own : List Nat} {c c' : Cs} {x : Nat} {o : Ob} (k : Kp own c c') (h : x ∈ own) : Kp own c (put c' x o) := fun m hm hn => by
  rw [put_ne (fun z => hm (by rw [z]; exact h))]
  exact k m hm hn
/-! ### ahead -/
def spRAh (C : Nat) : Spec := fun ds cs Q _ => ∃ n t r d, ds = [.ref n] ∧ RdAt C n t r d cs ∧ Q (.str (SX.S (r.take 1))) cs
theorem ok_rah : okFn 1 (c_Reader_ahead C) (spRAh C) := by
  rintro ds cs Q X ⟨n, t, r, d, rfl, h, hQ⟩
  show wpS (c_Reader_ahead_1 C) [some (.ref n)] cs _
  rw [c_Reader_ahead_1]
  simp only [wpS, wpE, wpEs, getV]
  refine h.tx (h.pos (intId_e (h.pos ?_)))
  rw [sAdd_i]
  refine ⟨_, _, _, rfl, by rw [SX.S_len]; have := h.len; show _ ≤ 16777216; omega, ?_⟩
  rw [slice_one h.suf]
  exact hQ
theorem RdAt.ah (h : RdAt C n t r d cs) {Q : KD} {X : KX} (hQ : Q (.str (SX.S (r.take 1))) cs) : spRAh C [.ref n] cs Q X := ⟨n, t, r, d, rfl, h, hQ⟩
theorem RdAt.chA (h : RdAt C n t r d cs) : chkI C "ahead" (.ref n) cs := h.chk fun _ _ _ => rfl
/-! ### expect -/
def spREx (C : Nat) : Spec := fun ds cs Q X => ∃ n t r d c, ds = [.ref n, .str (SX.S [c])] ∧ RdAt C n t r d cs ∧ c < 0x110000 ∧ if r.take 1 = [c] then Q .non (put cs n (rdr C t (r.drop 1) d)) else X perr cs
theorem adv {r : List Nat} {c : Nat} (h : r.take 1 = [c]) : 1 ≤ r.length ∧ (r.drop 1).length + 1 = r.length := by
  cases r with
  | nil => simp at h
  | cons a r => simp
theorem ok_rex : okFn 2 (c_Reader_expectX C (spRAh C)) (spREx C) := by
  rintro ds cs Q X ⟨n, t, r, d, c, rfl, h, hc, hQ⟩
  show wpS (.seq (c_Reader_expectX_2 C (spRAh C)) (c_Reader_expectX_3 C (spRAh C))) [some (.ref n), some (.str (SX.S [c]))] cs _
  simp only [wpS]
  rw [c_Reader_expectX_2]
  simp only [wpS, wpE, wpEs, getV]
  refine ⟨h.chA, h.ah ?_⟩
  refine ne_S (sgn_take (sgn_suf h.sg h.suf) 1) (fun x hx => by simp at hx; omega) ?_
  by_cases e : r.take 1 = [c]
  · rw [decide_eq_true e]
    rw [if_pos e] at hQ
    simp only [Bool.not_true, Bool.false_eq_true, if_false]
    rw [c_Reader_expectX_3]
    simp only [wpS, wpE, wpEs, getV]
    refine ⟨n, _, _, rfl, h.at_, rfl, by show 3 < 1000; omega, ?_⟩
    have l := adv e
    have hl := h.suf.length_le
    have : ((t.length - r.length : Nat) : Int) + 1 = ((t.length - (r.drop 1).length : Nat) : Int) := by omega
    rw [this]
    exact hQ
  · rw [decide_eq_false e]
    rw [if_neg e] at hQ
    simp only [Bool.not_false, if_true]
    rw [c_Reader_expectX_1]
    simp only [wpS, wpE, wpEs]
    exact hQ
/-! ### numbers -/
def spRNm (C : Nat) : Spec := fun ds cs Q X => ∃ n t r d, ds = [.ref n] ∧ RdAt C n t r d cs ∧ match rdN r with
  | some (i, r') => Q (.int i) (put cs n (rdr C t r' d))
  | none => ∀ r', r' <:+ r → X perr (put cs n (rdr C t r' d))
theorem seps : (" ()*>" : Str).cps.toList = [32, 40, 41, 42, 62] := by decide +kernel
theorem take_drop1 {r : List Nat} {p : Nat} (h : p < r.length) : (r.drop p).take 1 = [r[p]] := by
  rw [List.drop_eq_getElem_cons h]
  rfl
theorem tw_memB {p : Nat → Bool} : ∀ {l : List Nat} {c : Nat}, c ∈ l.takeWhile p → p c = true
  | [], _, h => by simp at h
  | a :: l, c, h => by
    rw [List.takeWhile_cons] at h
    split at h
    · rename_i ha
      rcases List.mem_cons.mp h with z | z
      · rw [z]; exact ha
      · exact tw_memB z
    · simp at h
theorem wrdN_lt {r : List Nat} {p : Nat} (h : p < r.length) (hp : p ≤ (wrdN r).length) : p < (wrdN r).length ↔ isSp r[p] = false := by
  constructor
  · intro k
    have e : r[p]? = (wrdN r)[p]? := by
      conv => lhs; rw [← wrd_rst r]
      rw [List.getElem?_append_left k]
    rw [List.getElem?_eq_getElem h, List.getElem?_eq_getElem k] at e
    have m : r[p] ∈ wrdN r := by
      rw [Option.some.inj e]
      exact List.getElem_mem k
    have := tw_memB m
    simpa using this
  · intro k
    by_cases z : p = (wrdN r).length
    · exfalso
      have e : (rstN r).head? = some r[p] := by
        rw [← rst_drop r, List.head?_drop, ← z, List.getElem?_eq_getElem h]
      unfold rstN at e
      have := List.head?_dropWhile_not (fun c => !isSp c) r
      rw [e] at this
      simp [k] at this
    · omega
theorem ok_rnm : okFn 3 (c_Reader_read_numberX C (spRAh C) spPNm) (spRNm C) := by
  rintro ds cs Q X ⟨n, t, r, d, rfl, h, hQ⟩
  show wpS (.seq (c_Reader_read_numberX_1 C (spRAh C) spPNm) (.seq (c_Reader_read_numberX_3 C (spRAh C) spPNm) (.seq (c_Reader_read_numberX_4 C (spRAh C) spPNm) (.seq (c_Reader_read_numberX_6 C (spRAh C) spPNm) (c_Reader_read_numberX_7 C (spRAh C) spPNm))))) [some (.ref n), none, none] cs _
  refine wpS_seq ?_
  rw [c_Reader_read_numberX_1]
  simp only [wpS, wpE, wpEs, getV]
  refine h.pos ?_
  simp only [bindP, List.set]
  rw [c_Reader_read_numberX_3]
  rw [wpS]
  refine ⟨r.length + 1, whl_inv (fun m σ c => ∃ p, p ≤ (wrdN r).length ∧ m = r.length - p ∧ σ = [some (.ref n), some (.int ((t.length - r.length : Nat) : Int)), none] ∧ c = put cs n (rdr C t (r.drop p) d)) ?_ (r.length + 1) r.length _ _ (by omega) ⟨0, Nat.zero_le _, by omega, rfl, ?_⟩⟩
  rotate_left
  · funext m
    by_cases e : m = n
    · subst e
      rw [put_same, List.drop_zero]
      exact h.at_
    · rw [put_ne e]
  rintro m σ c ⟨p, hp, rfl, rfl, rfl⟩
  have hc := h.mv (drop_suf (r := r) p) (d' := d)
  have hwl : (wrdN r).length ≤ r.length := List.IsPrefix.length_le (List.takeWhile_prefix _)
  refine ⟨decide (p < (wrdN r).length), fun Q' X' hQ' => ?_, fun hb => ?_, fun hb K' k1 k2 k3 k4 k5 => ?_⟩
  · simp only [wpE, wpEs, getV]
    refine ⟨hc.chA, hc.ah ?_⟩
    rw [S_nil]
    refine ne_S (sgn_take (sgn_suf hc.sg hc.suf) 1) (show ∀ x ∈ [], x < 0x110000 by simp) ?_
    by_cases e : p < r.length
    · rw [take_drop1 e, decide_eq_false (by simp)]
      simp only [Bool.not_false, if_true]
      refine ⟨hc.chA, hc.ah ?_⟩
      rw [take_drop1 e]
      refine ⟨r[p], _, rfl, ?_⟩
      rw [seps]
      have := wrdN_lt e hp
      have e2 : (!decide (r[p] ∈ [32, 40, 41, 42, 62])) = decide (p < (wrdN r).length) := by
        show (!isSp r[p]) = _
        cases hs : isSp r[p] with
        | true => rw [decide_eq_false (fun z => by rw [this.mp z] at hs; cases hs)]; rfl
        | false => rw [decide_eq_true (this.mpr hs)]; rfl
      rw [e2]
      exact hQ'
    · have e3 : (r.drop p).take 1 = [] := by rw [List.drop_of_length_le (by omega)]; rfl
      rw [e3, decide_eq_true rfl]
      simp only [Bool.not_true, Bool.false_eq_true, if_false]
      rw [decide_eq_false (by omega)] at hQ'
      exact hQ'
  · have hb : ¬ p < (wrdN r).length := of_decide_eq_false hb
    have e : p = (wrdN r).length := by omega
    subst e
    rw [rst_drop] at hc ⊢
    dsimp only
    rw [c_Reader_read_numberX_4]
    simp only [wpS, wpE, wpEs, getV]
    refine hc.tx (intId_e (hc.pos ?_))
    refine ⟨_, _, _, rfl, by rw [SX.S_len]; have := h.len; show _ ≤ 16777216; omega, ?_⟩
    have hrs : rstN r <:+ r := ⟨wrdN r, wrd_rst r⟩
    have hln : r.length - (rstN r).length = (wrdN r).length := by
      have : (wrdN r).length + (rstN r).length = r.length := by
        conv => rhs; rw [← wrd_rst r]
        rw [List.length_append]
      omega
    rw [slice_two h.suf hrs, hln, wrd_take]
    have tl := h.suf.length_le
    have tn := h.len
    refine ⟨wrdN r, rfl, sgn_sub (sgn_suf h.sg h.suf) fun c hc => (List.takeWhile_prefix _).subset hc, by omega, ?_⟩
    simp only [bindP, List.set]
    rw [c_Reader_read_numberX_6]
    simp only [wpS, wpE, wpEs, getV]
    unfold rdN at hQ
    cases hp : pnum (wrdN r) with
    | none =>
      rw [hp] at hQ
      show wpS _ _ _ _
      rw [c_Reader_read_numberX_5]
      simp only [wpS, wpE, wpEs]
      exact hQ _ hrs
    | some i =>
      rw [hp] at hQ
      show wpS _ _ _ _
      rw [c_Reader_read_numberX_7]
      simp only [wpS, wpE, wpEs, getV]
      exact hQ
  · have hb : p < (wrdN r).length := of_decide_eq_true hb
    rw [c_Reader_read_numberX_2]
    simp only [wpS, wpE, wpEs, getV]
    refine ⟨n, _, _, rfl, hc.at_, rfl, by show 3 < 1000; omega, ?_⟩
    have hl := h.suf.length_le
    have e : ((t.length - (r.drop p).length : Nat) : Int) + 1 = ((t.length - (r.drop (p + 1)).length : Nat) : Int) := by
      rw [List.length_drop, List.length_drop]
      omega
    rw [e, put_put]
    exact k1 (r.length - (p + 1)) _ _ (by omega) ⟨p + 1, by omega, rfl, rfl, rfl⟩
end
end G

/-! GRdX: steps read. -/
namespace G
open PySem (Str)
def nstD (k : Nat) : Int := ((4 - k : Nat) : Int)
def spRSt (C : Nat) (i : Nat) : Spec := fun ds cs Q X => ∃ n t r k, ds = [.ref n] ∧ k ≤ 4 ∧ 2 * k + 1 ≤ i ∧ RdAt C n t r (nstD k) cs ∧ match rdK k r with
  | some (s, r') => ∀ cs', Kp [n] cs cs' → cs' n = some (rdr C t r' (nstD k)) → Q (rsD s) cs'
  | none => ∀ cs', Kp [n] cs cs' → X perr cs'
def spRSs (C : Nat) (i : Nat) : Spec := fun ds cs Q X => ∃ n t r k, ds = [.ref n] ∧ k ≤ 4 ∧ 2 * k + 2 ≤ i ∧ RdAt C n t r (nstD k) cs ∧ match rdLs k r with
  | some (ss, r') => ∀ m cs', Kp [n] cs cs' → cs m = none → cs' m = some (.lst (rsDs ss)) → cs' n = some (rdr C t r' (nstD k)) → Q (.ref m) cs'
  | none => ∀ cs', Kp [n] cs cs' → X perr cs'
theorem z_spRSt {C : Nat} (ds : List D) (cs : Cs) (Q : KD) (X : KX) (h : spRSt C 0 ds cs Q X) : False := by
  obtain ⟨_, _, _, _, _, _, h, _⟩ := h
  omega
theorem z_spRSs {C : Nat} (ds : List D) (cs : Cs) (Q : KD) (X : KX) (h : spRSs C 0 ds cs Q X) : False := by
  obtain ⟨_, _, _, _, _, _, h, _⟩ := h
  omega
theorem gt_S : (">" : Str) = SX.S [62] := by decide +kernel
theorem star_S : ("*" : Str) = SX.S [42] := by decide +kernel
theorem lp_S : ("(" : Str) = SX.S [40] := by decide +kernel
theorem rp_S : (")" : Str) = SX.S [41] := by decide +kernel
theorem kp_putN {own : List Nat} {cs c : Cs} (k : Kp own cs c) {x : Nat} {o : Ob} (h : cs x = none) : Kp own cs (put c x o) := fun m hm hn => by
  rw [put_ne (fun z => hn (by rw [z]; exact h))]
  exact k m hm hn
section
variable {C n : Nat} {t r : List Nat} {d : Int} {cs : Cs}
theorem RdAt.chE (h : RdAt C n t r d cs) : chkI C "expect" (.ref n) cs := h.chk fun _ _ _ => rfl
theorem RdAt.chN (h : RdAt C n t r d cs) : chkI C "read_number" (.ref n) cs := h.chk fun _ _ _ => rfl
theorem RdAt.chT (h : RdAt C n t r d cs) : chkI C "read_step" (.ref n) cs := h.chk fun _ _ _ => rfl
theorem RdAt.chS (h : RdAt C n t r d cs) : chkI C "read_steps" (.ref n) cs := h.chk fun _ _ _ => rfl
theorem RdAt.exp (h : RdAt C n t r d cs) {c : Nat} (hc : c < 0x110000) {Q : KD} {X : KX} (h1 : r.take 1 = [c] → Q .non (put cs n (rdr C t (r.drop 1) d))) (h2 : r.take 1 ≠ [c] → X perr cs) : spREx C [.ref n, .str (SX.S [c])] cs Q X := by
  refine ⟨n, t, r, d, c, rfl, h, hc, ?_⟩
  split
  · exact h1 ‹_›
  · exact h2 ‹_›
theorem RdAt.num (h : RdAt C n t r d cs) {Q : KD} {X : KX} (h1 : ∀ i r', rdN r = some (i, r') → Q (.int i) (put cs n (rdr C t r' d))) (h2 : rdN r = none → ∀ r', X perr (put cs n (rdr C t r' d))) : spRNm C [.ref n] cs Q X := by
  refine ⟨n, t, r, d, rfl, h, ?_⟩
  cases e : rdN r with
  | none => exact fun r' _ => h2 e r'
  | some q => exact h1 q.1 q.2 e
theorem ah_eq (h : RdAt C n t r d cs) {c : Nat} (hc : c < 0x110000) {Q : KD} {X : KX} (hQ : Q (.bl (decide (r.take 1 = [c]))) cs) : sEq [.str (SX.S (r.take 1)), .str (SX.S [c])] cs Q X := eq_S (sgn_take (sgn_suf h.sg h.suf) 1) (fun x hx => by simp at hx; omega) hQ
theorem ah_ne (h : RdAt C n t r d cs) {c : Nat} (hc : c < 0x110000) {Q : KD} {X : KX} (hQ : Q (.bl (!decide (r.take 1 = [c]))) cs) : sNe [.str (SX.S (r.take 1)), .str (SX.S [c])] cs Q X := ne_S (sgn_take (sgn_suf h.sg h.suf) 1) (fun x hx => by simp at hx; omega) hQ
end
theorem rdK_f (k : Nat) : ∃ f, rdK k = rdS f ∧ ((k = 0 ∧ f = none) ∨ ∃ j, k = j + 1 ∧ f = some (rdLs j)) := by
  cases k with
  | zero => exact ⟨none, rfl, .inl ⟨rfl, rfl⟩⟩
  | succ j => exact ⟨some (rdLs j), rfl, .inr ⟨j, rfl, rfl⟩⟩
theorem ok_rst (C i : Nat) : okFn 3 (c_Reader_read_stepX C (spRAh C) (spREx C) (spRNm C) (spRSs C i)) (spRSt C (i + 1)) := by
  rintro ds cs Q X ⟨n, t, r, k, rfl, hk, hi, h, hQ⟩
  obtain ⟨p1, e1⟩ : ∃ p1, p1 = spRAh C := ⟨_, rfl⟩
  obtain ⟨p2, e2⟩ : ∃ p2, p2 = spREx C := ⟨_, rfl⟩
  obtain ⟨p3, e3⟩ : ∃ p3, p3 = spRNm C := ⟨_, rfl⟩
  obtain ⟨p4, e4⟩ : ∃ p4, p4 = spRSs C i := ⟨_, rfl⟩
  rw [← e1, ← e2, ← e3, ← e4]
  show wpS (.seq (c_Reader_read_stepX_1 C p1 p2 p3 p4) (.seq (c_Reader_read_stepX_4 C p1 p2 p3 p4) (.seq (c_Reader_read_stepX_6 C p1 p2 p3 p4) (.seq (c_Reader_read_stepX_8 C p1 p2 p3 p4) (.seq (c_Reader_read_stepX_9 C p1 p2 p3 p4) (.seq (c_Reader_read_stepX_10 C p1 p2 p3 p4) (.seq (c_Reader_read_stepX_11 C p1 p2 p3 p4) (.seq (c_Reader_read_stepX_12 C p1 p2 p3 p4) (.seq (c_Reader_read_stepX_13 C p1 p2 p3 p4) (.seq (c_Reader_read_stepX_14 C p1 p2 p3 p4) (c_Reader_read_stepX_15 C p1 p2 p3 p4))))))))))) [some (.ref n), none, none] cs _
  obtain ⟨f, ef, hf⟩ := rdK_f k
  rw [ef] at hQ
  unfold rdS at hQ
  have nn : cs n ≠ none := by rw [h.at_]; simp
  simp only [wpS]
  rw [c_Reader_read_stepX_1]
  simp only [wpS, wpE, wpEs, getV]
  refine ⟨h.chN, ?_⟩
  try rw [e3]
  refine h.num (fun i1 r1 en => ?_) fun en r' => ?_
  rotate_left
  · rw [en] at hQ
    exact hQ _ (Kp.refl.put1 (by simp))
  rw [en] at hQ
  dsimp only at hQ
  have s1 := rdN_suf en
  have h1 := h.mv s1.1 (d' := nstD k)
  have kp1 : Kp [n] cs (put cs n (rdr C t r1 (nstD k))) := Kp.refl.put1 (by simp)
  generalize put cs n (rdr C t r1 (nstD k)) = c1 at h1 kp1
  simp only [bindP, List.set]
  rw [c_Reader_read_stepX_4]
  simp only [wpS, wpE, wpEs, getV]
  refine ⟨h1.chA, ?_⟩
  try rw [e1]
  refine h1.ah ?_
  rw [gt_S]
  refine ah_eq h1 (by decide) ?_
  by_cases t62 : r1.take 1 = [62]
  · rw [decide_eq_true t62]
    rw [if_pos t62] at hQ
    simp only [if_true]
    rw [c_Reader_read_stepX_2]
    simp only [wpS, wpE, wpEs, getV]
    refine ⟨h1.chE, ?_⟩
    try rw [e2]
    rw [gt_S]
    refine h1.exp (by decide) (fun _ => ?_) fun z => (z t62).elim
    have h2 := h1.mv (drop_suf (r := r1) 1) (d' := nstD k)
    have kp2 : Kp [n] cs (put c1 n (rdr C t (r1.drop 1) (nstD k))) := kp1.put1 (by simp)
    generalize put c1 n (rdr C t (r1.drop 1) (nstD k)) = c2 at h2 kp2
    rw [c_Reader_read_stepX_3]
    simp only [wpS, wpE, wpEs, getV]
    refine ⟨h2.chN, ?_⟩
    try rw [e3]
    refine h2.num (fun j r3 en3 => ?_) fun en3 r' => ?_
    · rw [en3] at hQ
      refine ⟨by show 3 ≤ 16777216; omega, ?_⟩
      exact hQ _ (kp2.put1 (by simp)) put_same
    · rw [en3] at hQ
      exact hQ _ (kp2.put1 (by simp))
  rw [decide_eq_false t62]
  rw [if_neg t62] at hQ
  simp only [Bool.false_eq_true, if_false]
  rw [c_Reader_read_stepX_6]
  simp only [wpS, wpE, wpEs, getV]
  refine ⟨h1.chA, ?_⟩
  try rw [e1]
  refine h1.ah ?_
  rw [star_S]
  refine ah_ne h1 (by decide) ?_
  by_cases t42 : r1.take 1 = [42]
  rotate_left
  · rw [decide_eq_false t42]
    rw [if_neg t42] at hQ
    simp only [Bool.not_false, if_true]
    rw [c_Reader_read_stepX_5]
    simp only [wpS, wpE, wpEs, getV]
    exact hQ _ kp1 h1.at_
  rw [decide_eq_true t42]
  rw [if_pos t42] at hQ
  simp only [Bool.not_true, Bool.false_eq_true, if_false]
  rw [c_Reader_read_stepX_8]
  simp only [wpS, wpE, wpEs, getV]
  refine h1.nst ?_
  rw [sEq_i]
  rcases hf with ⟨k0, rfl⟩ | ⟨j, kj, rfl⟩
  · subst k0
    rw [show (nstD 0 == 4) = true by decide]
    simp only [if_true]
    rw [c_Reader_read_stepX_7]
    simp only [wpS, wpE, wpEs]
    exact hQ _ kp1
  subst kj
  dsimp only at hQ
  have nd : nstD (j + 1) + 1 = nstD j := by unfold nstD; omega
  have nd' : nstD j - 1 = nstD (j + 1) := by omega
  rw [show (nstD (j + 1) == 4) = false from beq_false_of_ne (by unfold nstD; omega)]
  simp only [Bool.false_eq_true, if_false]
  rw [c_Reader_read_stepX_9]
  simp only [wpS, wpE, wpEs, getV]
  refine ⟨n, _, _, rfl, h1.at_, rfl, by show 3 < 1000; omega, ?_⟩
  have h2 : RdAt C n t r1 (nstD j) (put c1 n (rdr C t r1 (nstD j))) := h1.mv (List.suffix_refl _)
  have kp2 : Kp [n] cs (put c1 n (rdr C t r1 (nstD j))) := kp1.put1 (by simp)
  rw [nd]
  show wpS _ _ (put c1 n (rdr C t r1 (nstD j))) _
  generalize put c1 n (rdr C t r1 (nstD j)) = c2 at h2 kp2
  rw [c_Reader_read_stepX_10]
  simp only [wpS, wpE, wpEs, getV]
  refine ⟨h2.chE, ?_⟩
  try rw [e2]
  rw [star_S]
  refine h2.exp (by decide) (fun _ => ?_) fun z => (z t42).elim
  have h3 := h2.mv (drop_suf (r := r1) 1) (d' := nstD j)
  have kp3 : Kp [n] cs (put c2 n (rdr C t (r1.drop 1) (nstD j))) := kp2.put1 (by simp)
  generalize put c2 n (rdr C t (r1.drop 1) (nstD j)) = c3 at h3 kp3
  rw [c_Reader_read_stepX_11]
  simp only [wpS, wpE, wpEs, getV]
  refine ⟨h3.chE, ?_⟩
  try rw [e2]
  rw [lp_S]
  refine h3.exp (by decide) (fun t40 => ?_) fun t40 => ?_
  rotate_left
  · rw [if_neg t40] at hQ
    exact hQ _ kp3
  rw [if_pos t40] at hQ
  have h4 := h3.mv (drop_suf (r := r1.drop 1) 1) (d' := nstD j)
  have kp4 : Kp [n] cs (put c3 n (rdr C t ((r1.drop 1).drop 1) (nstD j))) := kp3.put1 (by simp)
  generalize put c3 n (rdr C t ((r1.drop 1).drop 1) (nstD j)) = c4 at h4 kp4
  rw [c_Reader_read_stepX_12]
  simp only [wpS, wpE, wpEs, getV]
  refine ⟨h4.chS, ?_⟩
  try rw [e4]
  refine ⟨n, t, _, j, rfl, by omega, by omega, h4, ?_⟩
  cases eg : rdLs j ((r1.drop 1).drop 1) with
  | none =>
    rw [eg] at hQ
    intro cs' k'
    exact hQ _ (kp4.trans k')
  | some q =>
    obtain ⟨ss, r4⟩ := q
    rw [eg] at hQ
    dsimp only at hQ ⊢
    intro m c5 k5 hm hm5 hn5
    have sf := rdLs_suf j _ _ _ eg
    have h5 : RdAt C n t r4 (nstD j) c5 := ⟨hn5, sf.trans h4.suf, h.sg, h.len⟩
    have kp5 := kp4.trans k5
    have mn : m ≠ n := fun z => by rw [z] at hm; rw [h4.at_] at hm; cases hm
    simp only [bindP, List.set]
    rw [c_Reader_read_stepX_13]
    simp only [wpS, wpE, wpEs, getV]
    refine ⟨h5.chE, ?_⟩
    try rw [e2]
    rw [rp_S]
    refine h5.exp (by decide) (fun t41 => ?_) fun t41 => ?_
    rotate_left
    · rw [if_neg t41] at hQ
      exact hQ _ kp5
    rw [if_pos t41] at hQ
    have h6 := h5.mv (drop_suf (r := r4) 1) (d' := nstD j)
    have kp6 : Kp [n] cs (put c5 n (rdr C t (r4.drop 1) (nstD j))) := kp5.put1 (by simp)
    have hm6 : put c5 n (rdr C t (r4.drop 1) (nstD j)) m = some (.lst (rsDs ss)) := by rw [put_ne mn]; exact hm5
    generalize put c5 n (rdr C t (r4.drop 1) (nstD j)) = c6 at h6 kp6 hm6
    rw [c_Reader_read_stepX_14]
    simp only [wpS, wpE, wpEs, getV]
    refine ⟨n, _, _, rfl, h6.at_, rfl, by show 3 < 1000; omega, ?_⟩
    rw [nd']
    show wpS _ _ (put c6 n (rdr C t (r4.drop 1) (nstD (j + 1)))) _
    rw [c_Reader_read_stepX_15]
    simp only [wpS, wpE, wpEs, getV]
    rw [sTupOf_e, getQ_cell (xs := rsDs ss) (by rw [put_ne mn]; exact hm6)]
    dsimp only
    refine ⟨by show 3 ≤ 16777216; omega, ?_⟩
    exact hQ _ (kp6.put1 (by simp)) put_same
theorem sIn_tk {n : Nat} {C : Nat} {t r : List Nat} {d : Int} {cs : Cs} (h : RdAt C n t r d cs) {Q : KD} {X : KX} (hQ : Q (.bl (decide (r.take 1 = [] ∨ r.take 1 = [41]))) cs) : sIn [.str (SX.S (r.take 1)), .tup [.str "", .str ")"]] cs Q X := by
  refine ⟨rfl, rfl, ?_⟩
  have e : inD (.str (SX.S (r.take 1))) [.str "", .str ")"] = decide (r.take 1 = [] ∨ r.take 1 = [41]) := by
    rw [S_nil, rp_S]
    show ((SX.S [] == SX.S (r.take 1)) || ((SX.S [41] == SX.S (r.take 1)) || false)) = _
    rw [SX.S_beq_eq, SX.S_beq_eq, Bool.or_false, ← Bool.decide_or]
    exact decide_eq_decide.mpr (by
      constructor
      · rintro (z | z)
        · exact .inl z.symm
        · exact .inr z.symm
      · rintro (z | z)
        · exact .inl z.symm
        · exact .inr z.symm)
  rw [e]
  exact hQ
theorem rsDs_snoc (ss : List Rst) (s : Rst) : rsDs ss ++ [rsD s] = rsDs (ss ++ [s]) := by rw [rsDs_map, rsDs_map, List.map_append]; rfl
theorem rsDs_len (ss : List Rst) : (rsDs ss).length = ss.length := by rw [rsDs_map, List.length_map]
theorem ok_rss (C i : Nat) : okFn 2 (cM_Reader_read_steps C (spRAh C) (spREx C) (spRSt C i)) (spRSs C (i + 1)) := by
  rintro ds cs Q X ⟨n, t, r, k, rfl, hk, hi, h, hQ⟩
  obtain ⟨p1, e1⟩ : ∃ p1, p1 = spRAh C := ⟨_, rfl⟩
  obtain ⟨p2, e2⟩ : ∃ p2, p2 = spREx C := ⟨_, rfl⟩
  obtain ⟨p3, e3⟩ : ∃ p3, p3 = spRSt C i := ⟨_, rfl⟩
  rw [← e1, ← e2, ← e3]
  show wpS (.seq (cM_Reader_read_steps_1 C p1 p2 p3) (.seq (cM_Reader_read_steps_3 C p1 p2 p3) (.seq (cM_Reader_read_steps_4 C p1 p2 p3) (.seq (cM_Reader_read_steps_7 C p1 p2 p3) (cM_Reader_read_steps_8 C p1 p2 p3))))) [some (.ref n), none] cs _
  rw [rdLs_eq] at hQ
  have tl := h.suf.length_le
  have tn := h.len
  simp only [wpS]
  rw [cM_Reader_read_steps_1]
  simp only [wpS, wpE, wpEs, getV]
  refine ⟨by show 0 ≤ 16777216; omega, fun m hm => ?_⟩
  have mn : m ≠ n := fun z => by rw [z] at hm; rw [h.at_] at hm; cases hm
  have h1 : RdAt C n t r (nstD k) (put cs m (.lst [])) := ⟨by rw [put_ne (Ne.symm mn)]; exact h.at_, h.suf, h.sg, h.len⟩
  have kp1 : Kp [n] cs (put cs m (.lst [])) := kp_putN Kp.refl hm
  have hm1 : put cs m (.lst []) m = some (.lst (rsDs [])) := put_same
  generalize put cs m (.lst []) = c1 at h1 kp1 hm1
  simp only [bindP, List.set]
  rw [cM_Reader_read_steps_3]
  simp only [wpS, wpE, wpEs, getV]
  refine ⟨h1.chA, ?_⟩
  try rw [e1]
  refine h1.ah ⟨by show 2 ≤ 16777216; omega, sIn_tk h1 ?_⟩
  unfold rdTs at hQ
  by_cases hz : r.take 1 = [] ∨ r.take 1 = [41]
  · rw [decide_eq_true hz]
    rw [if_pos hz] at hQ
    simp only [if_true]
    rw [cM_Reader_read_steps_2]
    simp only [wpS, wpE, wpEs, getV]
    exact hQ m c1 kp1 hm hm1 h1.at_
  rw [decide_eq_false hz]
  rw [if_neg hz] at hQ
  simp only [Bool.false_eq_true, if_false]
  -- one step more at the end of the list
  have step : ∀ (acc : List Rst) (cur : List Nat) (c : Cs) (K : Ends), acc.length ≤ 100000 → RdAt C n t cur (nstD k) c → Kp [n] cs c → c m = some (.lst (rsDs acc)) → (∀ s r', rdK k cur = some (s, r') → ∀ c', RdAt C n t r' (nstD k) c' → Kp [n] cs c' → c' m = some (.lst (rsDs (acc ++ [s]))) → K.nx [some (.ref n), some (.ref m)] c') → (rdK k cur = none → ∀ c', Kp [n] cs c' → K.ex perr [some (.ref n), some (.ref m)] c') →
      wpS (.exp (.meth chkL sAppend (.v 1) (.cons (.meth (chkI C "read_step") p3 (.v 0) .nil) .nil))) [some (.ref n), some (.ref m)] c K := by
    intro acc cur c K ha hc kc hmc k1 k2
    simp only [wpS, wpE, wpEs, getV, chkL_ref, hmc]
    refine ⟨trivial, hc.chT, ?_⟩
    try rw [e3]
    refine ⟨n, t, cur, k, rfl, hk, by omega, hc, ?_⟩
    cases ek : rdK k cur with
    | none => exact fun c' k' => k2 ek c' (kc.trans k')
    | some q =>
      obtain ⟨s, r'⟩ := q
      dsimp only
      intro c' k' hn'
      have hm' : c' m = some (.lst (rsDs acc)) := k'.at_ hmc (by simpa using mn)
      rw [sAppend_e, hm']
      dsimp only
      refine ⟨by rw [rsDs_len]; show _ < 16777216; omega, ?_⟩
      rw [rsDs_snoc]
      have sf := rdK_suf k _ _ _ ek
      refine k1 s r' ek _ ⟨by rw [put_ne (Ne.symm mn)]; exact hn', sf.1.trans hc.suf, h.sg, h.len⟩ (kp_putN (kc.trans k') hm) put_same
  rw [cM_Reader_read_steps_4]
  refine step [] r c1 _ (by simp) h1 kp1 hm1 (fun s r' ek c2 h2 kp2 hm2 => ?_) fun ek c' k' => ?_
  rotate_left
  · rw [ek] at hQ
    exact hQ c' k'
  rw [ek] at hQ
  dsimp only at hQ
  have sf := rdK_suf k _ _ _ ek
  dsimp only
  rw [cM_Reader_read_steps_7]
  rw [wpS]
  refine ⟨r'.length + 1, whl_inv (fun mm σ c => ∃ acc cur fuel, mm = cur.length ∧ cur.length < fuel ∧ acc.length + cur.length ≤ 100000 ∧ rdM (rdK k) fuel acc cur = rdM (rdK k) (r'.length + 1) [s] r' ∧ σ = [some (.ref n), some (.ref m)] ∧ RdAt C n t cur (nstD k) c ∧ Kp [n] cs c ∧ c m = some (.lst (rsDs acc))) ?_ (r'.length + 1) r'.length _ _ (by omega) ⟨[s], r', r'.length + 1, rfl, by omega, by simp only [List.length_cons, List.length_nil]; omega, rfl, rfl, h2, kp2, hm2⟩⟩
  rintro mm σ c ⟨acc, cur, fuel, rfl, hfl, hal, hrm, rfl, hc, kc, hmc⟩
  obtain ⟨f, rfl⟩ : ∃ f, fuel = f + 1 := ⟨fuel - 1, by omega⟩
  refine ⟨decide (cur.take 1 = [32]), fun Q' X' hQ' => ?_, fun hb => ?_, fun hb K' k1 k2 k3 k4 k5 => ?_⟩
  · simp only [wpE, wpEs, getV]
    refine ⟨hc.chA, ?_⟩
    try rw [e1]
    refine hc.ah ?_
    rw [space_S]
    exact ah_eq hc (by decide) hQ'
  · have hb : ¬ cur.take 1 = [32] := of_decide_eq_false hb
    have er : rdM (rdK k) (f + 1) acc cur = some (acc, cur) := by
      unfold rdM
      rw [if_neg hb]
    rw [← hrm, er] at hQ
    dsimp only at hQ ⊢
    rw [cM_Reader_read_steps_8]
    simp only [wpS, wpE, wpEs, getV]
    exact hQ m c kc hm hmc hc.at_
  · have hb : cur.take 1 = [32] := of_decide_eq_true hb
    have er : rdM (rdK k) (f + 1) acc cur = match rdK k (cur.drop 1) with
      | none => none
      | some (s, r') => rdM (rdK k) f (acc ++ [s]) r' := by
      conv => lhs; unfold rdM
      first
        | (rw [if_pos hb]; done)
        | (rw [if_pos hb]; cases rdK k (cur.drop 1) <;> rfl)
    have l1 := drop_lt hb
    simp only [wpS]
    rw [cM_Reader_read_steps_5]
    simp only [wpS, wpE, wpEs, getV]
    refine ⟨hc.chE, ?_⟩
    try rw [e2]
    rw [space_S]
    refine hc.exp (by decide) (fun _ => ?_) fun z => (z hb).elim
    have h3 := hc.mv (drop_suf (r := cur) 1) (d' := nstD k)
    have kp3 : Kp [n] cs (put c n (rdr C t (cur.drop 1) (nstD k))) := kc.put1 (by simp)
    have hm3 : put c n (rdr C t (cur.drop 1) (nstD k)) m = some (.lst (rsDs acc)) := by rw [put_ne mn]; exact hmc
    generalize put c n (rdr C t (cur.drop 1) (nstD k)) = c3 at h3 kp3 hm3
    rw [cM_Reader_read_steps_6]
    refine step acc (cur.drop 1) c3 _ (by omega) h3 kp3 hm3 (fun s2 r2 ek2 c4 h4 kp4 hm4 => ?_) fun ek2 c' k' => ?_
    · rw [ek2] at er
      dsimp only at er
      have sf2 := rdK_suf k _ _ _ ek2
      refine k1 r2.length _ _ (by have := sf2.2; omega) ⟨acc ++ [s2], r2, f, rfl, by have := sf2.2; omega, ?_, by rw [← hrm, er], rfl, h4, kp4, hm4⟩
      simp only [List.length_append, List.length_cons, List.length_nil]
      have := sf2.2
      omega
    · rw [ek2] at er
      rw [← hrm, er] at hQ
      rw [k5]
      exact hQ c' k'
end G

/-! GTxJ: texts of histories; the reader reads them. -/
namespace G
open PySem (Str)
open PySem.NumText
def intL (i : Int) : List Nat := if i < 0 then 45 :: TL.numL i.natAbs else TL.numL i.toNat
theorem int_str (i : Int) : (toString i : Str) = SX.S (intL i) := by
  cases i with
  | ofNat n =>
    have e : intL (Int.ofNat n) = TL.numL n := by
      unfold intL
      rw [if_neg (show ¬ Int.ofNat n < 0 from Int.not_lt.mpr (Int.natCast_nonneg n))]
      rfl
    rw [e]
    exact SX.num_S n
  | negSucc n =>
    have e : intL (Int.negSucc n) = 45 :: TL.numL (n + 1) := by
      unfold intL
      rw [if_pos (Int.negSucc_lt_zero n)]
      rfl
    rw [e]
    refine TL.ext_tl ?_
    show (Str.ofString (toString (Int.negSucc n))).cps.toList = 45 :: TL.numL (n + 1)
    rw [PyProof.Rows.signs_ofString, show toString (Int.negSucc n) = "-" ++ Nat.repr (n + 1) from rfl, String.toList_append, List.map_append, Nat.toList_repr]
    rfl
theorem numL_sg (k : Nat) : ∀ c ∈ TL.numL k, 48 ≤ c ∧ c ≤ 57 := TL.numL_digits k
theorem intL_ne (i : Int) : intL i ≠ [] := by
  unfold intL
  split
  · simp
  · exact TL.numL_ne _
theorem intL_sg {i : Int} : ∀ c ∈ intL i, c = 45 ∨ (48 ≤ c ∧ c ≤ 57) := by
  intro c hc
  unfold intL at hc
  split at hc
  · rcases List.mem_cons.mp hc with z | z
    · exact .inl z
    · exact .inr (numL_sg _ c z)
  · exact .inr (numL_sg _ c hc)
theorem intL_len {i : Int} (h : i.natAbs < 10 ^ 31) : (intL i).length ≤ 32 := by
  unfold intL
  split
  · have := TL.numL_len (n := i.natAbs) (k := 31) (by decide) (by omega)
    simp only [List.length_cons]
    omega
  · have := TL.numL_len (n := i.toNat) (k := 31) (by decide) (by omega)
    omega
theorem numL_pos {k : Nat} (h : 0 < k) : (TL.numL k).take 1 ≠ [48] := fun z => by
  have := numL_one k z
  omega
theorem pnum_int {i : Int} (h : i.natAbs < 10 ^ 31) : pnum (intL i) = some i := by
  have all : ∀ k : Nat, (TL.numL k).all isDg = true := fun k => List.all_eq_true.mpr fun c hc => by
    have := numL_sg k c hc
    unfold isDg
    simp
    exact this
  by_cases hi : i < 0
  · have e : intL i = 45 :: TL.numL i.natAbs := if_pos hi
    have ed : dg (45 :: TL.numL i.natAbs) = TL.numL i.natAbs := by
      unfold dg
      rw [if_pos (show List.take 1 (45 :: TL.numL i.natAbs) = [45] from rfl)]
      rfl
    have l1 : (TL.numL i.natAbs).length ≤ 31 := TL.numL_len (by decide) (by omega)
    have l0 := List.length_pos_iff.mpr (TL.numL_ne i.natAbs)
    unfold pnum
    rw [e, ed, if_pos ⟨by omega, l1, all _⟩, if_neg (fun z => numL_pos (by omega) z.1), if_pos (show List.take 1 (45 :: TL.numL i.natAbs) = [45] from rfl), TL.numL_val]
    congr 1
    omega
  · have e : intL i = TL.numL i.toNat := if_neg hi
    have hm : ¬ (TL.numL i.toNat).take 1 = [45] := fun z => by
      cases ez : TL.numL i.toNat with
      | nil => exact TL.numL_ne _ ez
      | cons c r =>
        rw [ez] at z
        simp at z
        have := numL_sg i.toNat c (by rw [ez]; exact List.mem_cons_self)
        omega
    have ed : dg (TL.numL i.toNat) = TL.numL i.toNat := if_neg hm
    have l1 : (TL.numL i.toNat).length ≤ 31 := TL.numL_len (by decide) (by omega)
    have l0 := List.length_pos_iff.mpr (TL.numL_ne i.toNat)
    unfold pnum
    rw [e, ed, if_pos ⟨by omega, l1, all _⟩, if_neg hm, TL.numL_val, if_neg]
    · congr 1
      omega
    · rintro ⟨z, hw⟩
      have := numL_one _ z
      rw [this] at hw
      exact hw (TL.numL_lt (by decide))
/-! ### texts of steps -/
mutual
def txS : Stp → List Nat
  | .nd i => intL i
  | .lk c a => intL c ++ [62] ++ intL a
  | .rp n _ ss => intL (n : Nat) ++ [42, 40] ++ TL.joinL [32] (txs ss) ++ [41]
def txs : List Stp → List (List Nat)
  | [] => []
  | s :: ss => txS s :: txs ss
end
def txL (ss : List Stp) : List Nat := TL.joinL [32] (txs ss)
theorem txs_map : ∀ ss : List Stp, txs ss = ss.map txS
  | [] => by simp [txs]
  | s :: ss => by rw [txs, txs_map ss]; rfl
mutual
/-- all numbers are short enough to be read -/
def nbS : Stp → Prop
  | .nd i => i.natAbs < 10 ^ 31
  | .lk c a => c.natAbs < 10 ^ 31 ∧ a.natAbs < 10 ^ 31
  | .rp n _ ss => n < 10 ^ 31 ∧ nbs ss
def nbs : List Stp → Prop
  | [] => True
  | s :: ss => nbS s ∧ nbs ss
end
mutual
def toR : Stp → Rst
  | .nd i => .nd i
  | .lk c a => .lk c a
  | .rp n _ ss => .rp (n : Nat) (toRs ss)
def toRs : List Stp → List Rst
  | [] => []
  | s :: ss => toR s :: toRs ss
end
theorem txS_rp (n : Nat) (b : Bool) (ss : List Stp) : txS (.rp n b ss) = intL (n : Nat) ++ [42, 40] ++ txL ss ++ [41] := by rw [txS]; rfl
theorem txL_cons (s s2 : Stp) (ss : List Stp) : txL (s :: s2 :: ss) = txS s ++ [32] ++ txL (s2 :: ss) := by
  unfold txL
  rw [txs, txs]
  show TL.joinL [32] (txS s :: txS s2 :: txs ss) = txS s ++ [32] ++ TL.joinL [32] (txS s2 :: txs ss)
  simp [TL.joinL]
theorem txL_one (s : Stp) : txL [s] = txS s := by
  unfold txL
  rw [txs, txs]
  simp [TL.joinL]
theorem txL_nil : txL [] = [] := by
  unfold txL
  rw [txs]
  rfl
theorem natInt {n : Nat} (h : n < 10 ^ 31) : ((n : Nat) : Int).natAbs < 10 ^ 31 := by omega
theorem txS_ne (s : Stp) : txS s ≠ [] := by
  cases s with
  | nd i => rw [txS]; exact intL_ne i
  | lk c a => rw [txS]; simp
  | rp n b ss => rw [txS_rp]; simp
/-- the first sign of a step's text is a number's -/
theorem txS_hd (s : Stp) : ∃ c r, txS s = c :: r ∧ (c = 45 ∨ (48 ≤ c ∧ c ≤ 57)) := by
  have aux : ∀ (i : Int) (z : List Nat), ∃ c r, intL i ++ z = c :: r ∧ (c = 45 ∨ (48 ≤ c ∧ c ≤ 57)) := fun i z => by
    cases e : intL i with
    | nil => exact (intL_ne i e).elim
    | cons c r => exact ⟨c, r ++ z, rfl, intL_sg c (by rw [e]; exact List.mem_cons_self)⟩
  cases s with
  | nd i => rw [txS]; simpa using aux i []
  | lk c a => rw [txS, List.append_assoc]; exact aux c _
  | rp n b ss => rw [txS_rp, List.append_assoc, List.append_assoc]; exact aux _ _
mutual
theorem txS_len : ∀ s : Stp, nbS s → (txS s).length + 1 ≤ 70 * wrS s
  | .nd i, h => by
    rw [txS, wrS]
    rw [nbS] at h
    have := intL_len h
    omega
  | .lk c a, h => by
    rw [txS, wrS]
    rw [nbS] at h
    have := intL_len h.1
    have := intL_len h.2
    simp only [List.length_append, List.length_cons, List.length_nil]
    omega
  | .rp n b ss, h => by
    rw [txS_rp, wrS]
    rw [nbS] at h
    have := intL_len (natInt h.1)
    have := txL_len ss h.2
    simp only [List.length_append, List.length_cons, List.length_nil]
    omega
theorem txL_len : ∀ ss : List Stp, nbs ss → (txL ss).length ≤ 70 * wrL ss
  | [], _ => by rw [txL_nil]; simp
  | [s], h => by
    rw [nbs] at h
    rw [txL_one, wrL, wrL]
    have := txS_len s h.1
    omega
  | s :: s2 :: ss, h => by
    rw [nbs] at h
    rw [txL_cons, wrL]
    have := txS_len s h.1
    have := txL_len (s2 :: ss) h.2
    simp only [List.length_append, List.length_cons, List.length_nil]
    omega
end
mutual
theorem txS_sg : ∀ s : Stp, ∀ c ∈ txS s, c < 128
  | .nd i, c, h => by
    rw [txS] at h
    have := intL_sg c h
    omega
  | .lk a b, c, h => by
    rw [txS] at h
    simp only [List.mem_append] at h
    rcases h with (h | h) | h
    · have := intL_sg c h; omega
    · simp at h; omega
    · have := intL_sg c h; omega
  | .rp n b ss, c, h => by
    rw [txS_rp] at h
    simp only [List.mem_append] at h
    rcases h with ((h | h) | h) | h
    · have := intL_sg c h; omega
    · simp at h; omega
    · exact txL_sg ss c h
    · simp at h; omega
theorem txL_sg : ∀ ss : List Stp, ∀ c ∈ txL ss, c < 128
  | [], c, h => by rw [txL_nil] at h; simp at h
  | [s], c, h => by rw [txL_one] at h; exact txS_sg s c h
  | s :: s2 :: ss, c, h => by
    rw [txL_cons] at h
    simp only [List.mem_append] at h
    rcases h with (h | h) | h
    · exact txS_sg s c h
    · simp at h; omega
    · exact txL_sg (s2 :: ss) c h
end
/-! ### read again -/
/-- a text's end, or a sign that ends a number -/
def hdSp (r : List Nat) : Prop := ∀ c, r.head? = some c → isSp c = true
theorem wrdN_app {w r : List Nat} (hw : ∀ c ∈ w, isSp c = false) (hr : hdSp r) : wrdN (w ++ r) = w ∧ rstN (w ++ r) = r := by
  induction w with
  | nil =>
    cases r with
    | nil => exact ⟨rfl, rfl⟩
    | cons c r =>
      have := hr c rfl
      unfold wrdN rstN
      simp [this]
  | cons a w ih =>
    have ha := hw a List.mem_cons_self
    have := ih fun c hc => hw c (List.mem_cons_of_mem _ hc)
    unfold wrdN rstN at this ⊢
    rw [List.cons_append, List.takeWhile_cons, List.dropWhile_cons]
    simp only [ha, Bool.not_false, if_true]
    exact ⟨by rw [this.1], this.2⟩
theorem intL_sp {i : Int} : ∀ c ∈ intL i, isSp c = false := fun c hc => by
  have := intL_sg c hc
  unfold isSp
  simp only [List.mem_cons, List.not_mem_nil, or_false]
  exact decide_eq_false (by omega)
theorem rdN_int {i : Int} {r : List Nat} (h : i.natAbs < 10 ^ 31) (hr : hdSp r) : rdN (intL i ++ r) = some (i, r) := by
  have := wrdN_app (w := intL i) intL_sp hr
  unfold rdN
  rw [this.1, this.2, pnum_int h]
def endS (r : List Nat) : Prop := r = [] ∨ r.head? = some 32 ∨ r.head? = some 41
theorem endS.sp {r : List Nat} (h : endS r) : hdSp r := fun c hc => by
  rcases h with z | z | z
  · rw [z] at hc; cases hc
  · rw [z] at hc; cases hc; decide
  · rw [z] at hc; cases hc; decide
theorem endS.no {r : List Nat} (h : endS r) : r.take 1 ≠ [62] ∧ r.take 1 ≠ [42] := by
  cases r with
  | nil => simp
  | cons c r =>
    rcases h with z | z | z
    · cases z
    · simp at z; subst z; simp
    · simp at z; subst z; simp
theorem rdK_at (k : Nat) : ∃ f, rdK k = rdS f := by
  cases k with
  | zero => exact ⟨none, rfl⟩
  | succ j => exact ⟨some (rdLs j), rfl⟩
theorem tk1 {a : Nat} {l : List Nat} : (a :: l).take 1 = [a] := rfl
mutual
theorem rdK_tx : ∀ (s : Stp) (k : Nat) (r : List Nat), dpS s ≤ k → nbS s → endS r → rdK k (txS s ++ r) = some (toR s, r)
  | .nd i, k, r, _, h, hr => by
    rw [nbS] at h
    obtain ⟨f, ef⟩ := rdK_at k
    rw [ef, txS, toR]
    unfold rdS
    rw [rdN_int h hr.sp]
    dsimp only
    rw [if_neg hr.no.1, if_neg hr.no.2]
  | .lk c a, k, r, _, h, hr => by
    rw [nbS] at h
    obtain ⟨f, ef⟩ := rdK_at k
    rw [ef, txS, toR, List.append_assoc, List.append_assoc]
    unfold rdS
    rw [rdN_int h.1 (fun c hc => by simp at hc; subst hc; decide)]
    dsimp only
    rw [if_pos (show List.take 1 ([62] ++ (intL a ++ r)) = [62] from rfl)]
    show (match rdN (intL a ++ r) with
      | none => none
      | some (j, r3) => some (Rst.lk c j, r3)) = _
    rw [rdN_int h.2 hr.sp]
  | .rp n b ss, k, r, hd, h, hr => by
    rw [nbS] at h
    rw [dpS] at hd
    obtain ⟨j, rfl⟩ : ∃ j, k = j + 1 := ⟨k - 1, by omega⟩
    rw [txS_rp, toR, List.append_assoc, List.append_assoc, List.append_assoc]
    show rdS (some (rdLs j)) _ = _
    unfold rdS
    rw [rdN_int (natInt h.1) (fun c hc => by simp at hc; subst hc; decide)]
    dsimp only
    rw [if_neg (by simp), if_pos (show List.take 1 ([42, 40] ++ (txL ss ++ ([41] ++ r))) = [42] from rfl), if_pos (show List.take 1 (List.drop 1 ([42, 40] ++ (txL ss ++ ([41] ++ r)))) = [40] from rfl)]
    show (match rdLs j (txL ss ++ ([41] ++ r)) with
      | none => none
      | some (ss, r4) => if r4.take 1 = [41] then some (Rst.rp (n : Nat) ss, r4.drop 1) else none) = _
    rw [rdLs_tx ss j ([41] ++ r) (by omega) h.2 (.inr rfl)]
    dsimp only
    rw [if_pos (show List.take 1 ([41] ++ r) = [41] from rfl)]
    rfl
theorem rdM_tx : ∀ (ss : List Stp) (k : Nat) (acc : List Rst) (r : List Nat) (n : Nat), dpL ss ≤ k → nbs ss → (r = [] ∨ r.head? = some 41) → (txL ss).length + r.length + 1 < n → ss ≠ [] → rdM (rdK k) n acc (32 :: (txL ss ++ r)) = some (acc ++ toRs ss, r)
  | [], _, _, _, _, _, _, _, _, z => (z rfl).elim
  | [s], k, acc, r, n, hd, h, hr, hn, _ => by
    rw [nbs] at h
    rw [dpL, dpL] at hd
    obtain ⟨m, rfl⟩ : ∃ m, n = m + 1 := ⟨n - 1, by omega⟩
    rw [txL_one] at hn ⊢
    have e := rdK_tx s k r (by omega) h.1 (by rcases hr with z | z; exact .inl z; exact .inr (.inr z))
    unfold rdM
    rw [if_pos tk1]
    show (match rdK k (txS s ++ r) with
      | none => none
      | some (s, r') => rdM (rdK k) m (acc ++ [s]) r') = _
    rw [e]
    obtain ⟨m2, rfl⟩ : ∃ m2, m = m2 + 1 := ⟨m - 1, by have := List.length_pos_iff.mpr (txS_ne s); omega⟩
    dsimp only
    unfold rdM
    rw [if_neg (by rcases hr with z | z; rw [z]; simp; cases r with | nil => simp | cons c r => simp at z; subst z; simp), toRs, toRs]
  | s :: s2 :: ss, k, acc, r, n, hd, h, hr, hn, _ => by
    rw [nbs] at h
    rw [dpL] at hd
    obtain ⟨m, rfl⟩ : ∃ m, n = m + 1 := ⟨n - 1, by omega⟩
    have e := rdK_tx s k (32 :: (txL (s2 :: ss) ++ r)) (by omega) h.1 (.inr (.inl rfl))
    rw [txL_cons] at hn ⊢
    simp only [List.length_append, List.length_cons, List.length_nil] at hn
    unfold rdM
    rw [if_pos tk1]
    have e2 : txS s ++ [32] ++ txL (s2 :: ss) ++ r = txS s ++ 32 :: (txL (s2 :: ss) ++ r) := by simp
    show (match rdK k (txS s ++ [32] ++ txL (s2 :: ss) ++ r) with
      | none => none
      | some (s, r') => rdM (rdK k) m (acc ++ [s]) r') = _
    rw [e2, e]
    dsimp only
    rw [rdM_tx (s2 :: ss) k (acc ++ [toR s]) r m (by omega) h.2 hr (by omega) (by simp)]
    conv => rhs; rw [toRs]
    simp
theorem rdLs_tx : ∀ (ss : List Stp) (k : Nat) (r : List Nat), dpL ss ≤ k → nbs ss → (r = [] ∨ r.head? = some 41) → rdLs k (txL ss ++ r) = some (toRs ss, r)
  | [], k, r, _, _, hr => by
    rw [rdLs_eq, txL_nil, toRs, List.nil_append]
    unfold rdTs
    rw [if_pos]
    rcases hr with z | z
    · left; rw [z]; rfl
    · right
      cases r with
      | nil => cases z
      | cons c r => simp at z; subst z; rfl
  | [s], k, r, hd, h, hr => by
    rw [nbs] at h
    rw [dpL, dpL] at hd
    have e := rdK_tx s k r (by omega) h.1 (by rcases hr with z | z; exact .inl z; exact .inr (.inr z))
    obtain ⟨c, q, ec, hc⟩ := txS_hd s
    rw [rdLs_eq, txL_one, toRs, toRs]
    unfold rdTs
    rw [if_neg (by rw [ec]; simp; omega), e]
    dsimp only
    unfold rdM
    rw [if_neg (by rcases hr with z | z; rw [z]; simp; cases r with | nil => simp | cons c r => simp at z; subst z; simp)]
  | s :: s2 :: ss, k, r, hd, h, hr => by
    rw [nbs] at h
    rw [dpL] at hd
    have e := rdK_tx s k (32 :: (txL (s2 :: ss) ++ r)) (by omega) h.1 (.inr (.inl rfl))
    obtain ⟨c, q, ec, hc⟩ := txS_hd s
    have e2 : txL (s :: s2 :: ss) ++ r = txS s ++ 32 :: (txL (s2 :: ss) ++ r) := by rw [txL_cons]; simp
    rw [rdLs_eq, e2, toRs]
    unfold rdTs
    rw [if_neg (by rw [ec]; simp; omega), e]
    dsimp only
    rw [rdM_tx (s2 :: ss) k [toR s] r _ (by omega) h.2 hr (by simp) (by simp)]
    rfl
end
mutual
/-- tuples for all inner lists -/
def plS1 : Stp → Stp
  | .nd i => .nd i
  | .lk c a => .lk c a
  | .rp n _ ss => .rp n true (plL1 ss)
def plL1 : List Stp → List Stp
  | [] => []
  | s :: ss => plS1 s :: plL1 ss
end
mutual
theorem rsD_toR : ∀ s : Stp, rsD (toR s) = stD (plS1 s)
  | .nd i => by rw [toR, rsD, plS1, stD]
  | .lk c a => by rw [toR, rsD, plS1, stD]
  | .rp n b ss => by
    rw [toR, rsD, plS1, stD, rsDs_toRs ss]
    rfl
theorem rsDs_toRs : ∀ ss : List Stp, rsDs (toRs ss) = stDs (plL1 ss)
  | [] => by rw [toRs, rsDs, plL1, stDs]
  | s :: ss => by rw [toRs, rsDs, plL1, stDs, rsD_toR s, rsDs_toRs ss]
end
mutual
theorem plS_wr : ∀ s : Stp, wrS (plS1 s) = wrS s
  | .nd i => by rw [plS1]
  | .lk c a => by rw [plS1]
  | .rp n b ss => by rw [plS1, wrS, wrS, plL_wr ss]
theorem plL_wr : ∀ ss : List Stp, wrL (plL1 ss) = wrL ss
  | [] => by rw [plL1]
  | s :: ss => by rw [plL1, wrL, wrL, plS_wr s, plL_wr ss]
end
mutual
theorem plS_vl : ∀ (k : Nat) (s : Stp), vlS k s → vlS k (plS1 s)
  | k, .nd i, h => by rw [plS1]; exact h
  | k, .lk c a, h => by rw [plS1]; exact h
  | k, .rp n b ss, h => by
    rw [vlS] at h
    rw [plS1, vlS]
    exact ⟨h.1, h.2.1, plL_vl (k + 1) ss h.2.2⟩
theorem plL_vl : ∀ (k : Nat) (ss : List Stp), vlL k ss → vlL k (plL1 ss)
  | k, [], h => by rw [plL1]; exact h
  | k, s :: ss, h => by
    rw [vlL] at h
    rw [plL1, vlL]
    exact ⟨plS_vl k s h.1, plL_vl k ss h.2⟩
end
mutual
theorem vlS_dp : ∀ (k : Nat) (s : Stp), vlS k s → k ≤ 4 → k + dpS s ≤ 4
  | k, .nd i, _, hk => by rw [dpS]; omega
  | k, .lk c a, _, hk => by rw [dpS]; omega
  | k, .rp n b ss, h, hk => by
    rw [vlS] at h
    rw [dpS]
    have := vlL_dp (k + 1) ss h.2.2 (by omega)
    omega
theorem vlL_dp : ∀ (k : Nat) (ss : List Stp), vlL k ss → k ≤ 4 → k + dpL ss ≤ 4
  | k, [], _, hk => by rw [dpL]; omega
  | k, s :: ss, h, hk => by
    rw [vlL] at h
    rw [dpL]
    have := vlS_dp k s h.1 hk
    have := vlL_dp k ss h.2 hk
    omega
end
end G

/-! GFmtE: f-strings and methods, one step at a time. -/
namespace G
open PySem (Str)
/-! texts in parts -/
theorem Ev.catNil {c : E} {σ : Sl} {cs : Cs} {x : Str} (h : Ev c σ cs (.str x)) : Ev (catL c []) σ cs (.str x) := fun Q X hQ => by
  show wpE (.meth chkS sIdS c .nil) σ cs Q X
  rw [wpE_meth]
  refine h _ _ ⟨⟨x, rfl⟩, ?_⟩
  rw [wpEs_nil]
  exact ⟨x, rfl, hQ⟩
theorem Ev.cat1 {c b : E} {σ : Sl} {cs : Cs} {x y : Str} (h : Ev c σ cs (.str x)) (h2 : Ev b σ cs (.str y)) (hl : (x ++ y).length ≤ 16777216) : Ev (.meth chkS sCat c (.cons b .nil)) σ cs (.str (x ++ y)) := fun Q X hQ => by
  rw [wpE_meth]
  refine h _ _ ⟨⟨x, rfl⟩, ?_⟩
  exact (Evs.one h2) _ _ ⟨x, y, rfl, hl, hQ⟩
theorem Ev.fmtI {e : E} {σ : Sl} {cs : Cs} {i : Int} (h : Ev e σ cs (.int i)) (hi : i.natAbs.log2 < 1920) : Ev (.app sFmt (.cons e .nil)) σ cs (.str (Str.ofString (toString i))) :=
  .app (.one h) fun Q X h => .inr ⟨i, rfl, hi, h⟩
theorem Ev.meth {chk : D → Cs → Prop} {sp : Spec} {o : E} {as : Es} {σ : Sl} {cs : Cs} {d r : D} {ds : List D} (h : Ev o σ cs d) (hc : chk d cs) (ha : Evs as σ cs ds) (hs : SpD sp (d :: ds) cs r) : Ev (.meth chk sp o as) σ cs r := fun Q X hQ => by
  rw [wpE_meth]
  exact h _ _ ⟨hc, ha _ _ (hs _ _ hQ)⟩
end G

/-! GRdY: a reader made; the program's writers of histories. -/
namespace G
open PySem (Str)
def spRIni (C : Nat) : Spec := fun ds cs Q _ => ∃ n t, ds = [.ref n, .str (SX.S t)] ∧ cs n = some (.ins C []) ∧ Q .non (put cs n (rdr C t t 0))
theorem ok_rini (C : Nat) : okFn 2 (c_Reader___init__ C) (spRIni C) := by
  rintro ds cs Q X ⟨n, t, rfl, hn, hQ⟩
  show wpS (c_Reader___init___1 C) [some (.ref n), some (.str (SX.S t))] cs _
  rw [c_Reader___init___1]
  simp only [wpS, wpE, wpEs, getV]
  refine ⟨by show 3 ≤ 16777216; omega, n, [], .str (SX.S t), .int 0, .int 0, rfl, hn, by show 0 < 998; omega, ?_⟩
  have e : rdr C t t 0 = .ins C [("text", .str (SX.S t)), ("at", .int 0), ("nesting", .int 0)] := by
    unfold rdr
    rw [Nat.sub_self]
    rfl
  rw [e] at hQ
  exact hQ
/-! ### writers -/
theorem log_big {i : Int} (h : i.natAbs < 10 ^ 31) : i.natAbs.log2 < 1920 := by
  by_cases z : i.natAbs = 0
  · rw [z]; decide
  · have : i.natAbs.log2 < 104 := (Nat.log2_lt z).mpr (Nat.lt_trans h (by decide))
    omega
theorem ixS_d {x : D} {i : Int} {xs : List D} {d : D} {cs : Cs} (h : getQ x cs = some xs) (hd : ix xs i = some d) : SpD sIx [x, .int i] cs d := fun Q X k => by rw [sIx_l h hd]; exact k
def spFSs (i : Nat) : Spec := fun ds cs Q _ => ∃ x ss, ds = [x] ∧ getQ x cs = some (stDs ss) ∧ 2 * dpL ss + 2 ≤ i ∧ nbs ss ∧ wrL ss ≤ 1000 ∧ Q (.str (SX.S (txL ss))) cs
def spFSt (i : Nat) : Spec := fun ds cs Q _ => ∃ s, ds = [stD s] ∧ 2 * dpS s + 1 ≤ i ∧ nbS s ∧ wrS s ≤ 1000 ∧ Q (.str (SX.S (txS s))) cs
theorem z_spFSs (ds : List D) (cs : Cs) (Q : KD) (X : KX) (h : spFSs 0 ds cs Q X) : False := by
  obtain ⟨_, _, _, _, h, _⟩ := h
  omega
theorem z_spFSt (ds : List D) (cs : Cs) (Q : KD) (X : KX) (h : spFSt 0 ds cs Q X) : False := by
  obtain ⟨_, _, h, _⟩ := h
  omega
theorem star2_S : ("*(" : Str) = SX.S [42, 40] := by decide +kernel
theorem empty_S : PySem.Str.empty = SX.S [] := by decide +kernel
theorem Ev.catS {c b : E} {σ : Sl} {cs : Cs} {x y : List Nat} (h : Ev c σ cs (.str (SX.S x))) (h2 : Ev b σ cs (.str (SX.S y))) (hl : x.length + y.length ≤ 16777216) : Ev (.meth chkS sCat c (.cons b .nil)) σ cs (.str (SX.S (x ++ y))) := by
  rw [← SX.S_cat]
  exact Ev.cat1 h h2 (by rw [SX.S_cat, SX.S_len, List.length_append]; exact hl)
theorem Ev.conS {s : Str} {a : List Nat} {σ : Sl} {cs : Cs} (h : s = SX.S a) : Ev (.c (.str s)) σ cs (.str (SX.S a)) := by
  rw [h]
  exact .con
theorem Ev.fmtN {e : E} {σ : Sl} {cs : Cs} {i : Int} (h : Ev e σ cs (.int i)) (hi : i.natAbs < 10 ^ 31) : Ev (.app sFmt (.cons e .nil)) σ cs (.str (SX.S (intL i))) := by
  have := Ev.fmtI h (log_big hi)
  rwa [show (Str.ofString (toString i)) = SX.S (intL i) from int_str i] at this
theorem Ev.fmtT {e : E} {σ : Sl} {cs : Cs} {a : List Nat} (h : Ev e σ cs (.str (SX.S a))) (hl : a.length ≤ 16777216) : Ev (.app sFmt (.cons e .nil)) σ cs (.str (SX.S a)) :=
  .app (.one h) fun Q X k => .inl ⟨_, rfl, by rw [SX.S_len]; exact hl, k⟩
theorem Ev.addS {a b : E} {σ : Sl} {cs : Cs} {x y : List Nat} (h : Ev a σ cs (.str (SX.S x))) (h2 : Ev b σ cs (.str (SX.S y))) (hl : x.length + y.length ≤ 16777216) : Ev (.app sAdd (.cons a (.cons b .nil))) σ cs (.str (SX.S (x ++ y))) :=
  .app (.two h h2) fun Q X hQ => by
    refine ⟨by rw [SX.S_len, SX.S_len]; exact hl, ?_⟩
    rw [SX.S_cat]
    exact hQ
theorem Ev.strN {e : E} {σ : Sl} {cs : Cs} {i : Int} (h : Ev e σ cs (.int i)) (hi : i.natAbs < 10 ^ 31) : Ev (.app sStrI (.cons e .nil)) σ cs (.str (SX.S (intL i))) :=
  .app (.one h) fun Q X hQ => ⟨i, rfl, log_big hi, by rw [int_str]; exact hQ⟩
theorem ok_fst (i : Nat) : okFn 1 (c_format_step (spFSs i)) (spFSt (i + 1)) := by
  rintro ds cs Q X ⟨s, rfl, hi, hb, hw, hQ⟩
  show wpS (.seq (c_format_step_2 (spFSs i)) (.seq (c_format_step_4 (spFSs i)) (c_format_step_5 (spFSs i)))) [some (stD s)] cs _
  simp only [wpS]
  rw [c_format_step_2]
  simp only [wpS, wpE, wpEs, getV, isi_st]
  cases s with
  | nd j =>
    rw [nbS] at hb
    simp only [if_true]
    rw [c_format_step_1]
    simp only [wpS, wpE, wpEs, getV]
    refine ⟨j, by rw [stD], log_big hb, ?_⟩
    rw [int_str]
    rw [txS] at hQ
    exact hQ
  | lk a b =>
    rw [nbS] at hb
    have l1 := intL_len hb.1
    have l2 := intL_len hb.2
    simp only [Bool.false_eq_true, if_false]
    rw [c_format_step_4]
    simp only [wpS, wpE, wpEs, getV, stD, sIx_e, getQ, ix3_0, strE_e ok_lkS ok_lkS]
    show wpS _ _ _ _
    rw [c_format_step_3]
    rw [txS] at hQ
    refine wpS_ret (d := .str (SX.S (intL a ++ [62] ++ intL b))) (.catNil ?_) hQ
    have i1 : Ev (.app sIx (.cons (.v 0) (.cons (.c (.int 1)) .nil))) [some (D.tup [.str "link", .int a, .int b])] cs (.int a) := .app (.two (.var rfl) .con) (ixS_d rfl rfl)
    have i2 : Ev (.app sIx (.cons (.v 0) (.cons (.c (.int 2)) .nil))) [some (D.tup [.str "link", .int a, .int b])] cs (.int b) := .app (.two (.var rfl) .con) (ixS_d rfl rfl)
    have := Ev.catS (Ev.catS (Ev.catS (.conS (σ := [some (D.tup [.str "link", .int a, .int b])]) (cs := cs) empty_S) (.fmtN i1 hb.1) (by simp; omega)) (.conS gt_S) (by simp; omega)) (.fmtN i2 hb.2) (by simp; omega)
    simpa using this
  | rp n b ss =>
    have hb' := hb
    rw [nbS] at hb
    rw [dpS] at hi
    rw [wrS] at hw
    have l1 := intL_len (natInt hb.1)
    have l2 := txL_len ss hb.2
    simp only [Bool.false_eq_true, if_false]
    rw [c_format_step_4]
    simp only [wpS, wpE, wpEs, getV, stD, sIx_e, getQ, ix3_0, strE_e ok_rpS ok_lkS]
    show wpS _ _ _ _
    rw [c_format_step_5]
    rw [txS_rp] at hQ
    refine wpS_ret (d := .str (SX.S (intL (n : Nat) ++ [42, 40] ++ txL ss ++ [41]))) (.catNil ?_) hQ
    have i1 : Ev (.app sIx (.cons (.v 0) (.cons (.c (.int 1)) .nil))) [some (D.tup [.str "repeat", .int (n : Nat), sqD b (stDs ss)])] cs (.int (n : Nat)) := .app (.two (.var rfl) .con) (ixS_d rfl rfl)
    have i2 : Ev (.app (spFSs i) (.cons (.app sIx (.cons (.v 0) (.cons (.c (.int 2)) .nil))) .nil)) [some (D.tup [.str "repeat", .int (n : Nat), sqD b (stDs ss)])] cs (.str (SX.S (txL ss))) := .app (.one (.app (d := sqD b (stDs ss)) (.two (.var rfl) .con) (ixS_d rfl rfl))) fun Q X k => ⟨_, ss, rfl, sqD_q, by omega, hb.2, by omega, k⟩
    have := Ev.catS (Ev.catS (Ev.catS (Ev.catS (.conS (σ := [some (D.tup [.str "repeat", .int (n : Nat), sqD b (stDs ss)])]) (cs := cs) empty_S) (.fmtN i1 (natInt hb.1)) (by simp; omega)) (.conS star2_S) (by simp; omega)) (.fmtT i2 (by omega)) (by simp; omega)) (.conS rp_S) (by simp; omega)
    simpa using this
theorem mem_wr {s : Stp} : ∀ {ss : List Stp}, s ∈ ss → wrS s ≤ wrL ss ∧ dpS s ≤ dpL ss ∧ (nbs ss → nbS s)
  | [], h => by simp at h
  | a :: ss, h => by
    rw [wrL, dpL, nbs]
    rcases List.mem_cons.mp h with z | z
    · subst z
      exact ⟨by omega, by omega, fun k => k.1⟩
    · have := mem_wr z
      exact ⟨by omega, by omega, fun k => this.2.2 k.2⟩
theorem join_txs {ss : List Stp} (hb : nbs ss) (hw : wrL ss ≤ 1000) {cs : Cs} {x : D} (hx : getL x cs = some (ss.map fun s => D.str (SX.S (txS s)))) {Q : KD} {X : KX} (hQ : Q (.str (SX.S (txL ss))) cs) : sJoin [.str " ", x] cs Q X := by
  refine ⟨x, " ", ss.map fun s => SX.S (txS s), rfl, by rw [hx, List.map_map]; rfl, ?_, ?_⟩
  · have : ∀ l : List Stp, nbs l → ((l.map fun s => SX.S (txS s)).map (·.length)).sum + l.length ≤ 70 * wrL l := by
      intro l
      induction l with
      | nil => intro _; simp
      | cons a l ih =>
        intro h
        rw [nbs] at h
        have h1 := ih h.2
        have h2 := txS_len a h.1
        rw [wrL]
        simp only [List.map_cons, List.sum_cons, List.length_cons, SX.S_len] at h1 ⊢
        omega
    have h1 := this ss hb
    have h2 : Str.length " " = 1 := by decide +kernel
    rw [h2, List.length_map]
    omega
  · have e : PySem.Txt.join " " (ss.map fun s => SX.S (txS s)) = SX.S (txL ss) := by
      rw [space_S]
      have := SX.join_S [32] (txs ss)
      rw [txs_map, List.map_map] at this
      unfold txL
      rw [txs_map]
      exact this
    rw [e]
    exact hQ
theorem ok_fss (i : Nat) : okFn 2 (c_format_steps (spFSt i)) (spFSs (i + 1)) := by
  rintro ds cs Q X ⟨x, ss, rfl, hx, hi, hb, hw, hQ⟩
  show wpS (c_format_steps_1 (spFSt i)) [some x, none] cs _
  rw [c_format_steps_1]
  simp only [wpS, wpE, wpEs, getV]
  refine ⟨⟨" ", rfl⟩, iSeq_q hx ?_⟩
  rw [stDs_map]
  have := wrL_len ss
  refine comp_of stD (fun _ => true) (fun s => .str (SX.S (txS s))) grdL_self ss [] (fun s hs => ⟨_, rfl, fun K h => h, fun _ K hK => ?_⟩) (by show 0 + _ ≤ 16777216; omega) ?_
  · simp only [wipe, List.set, getV]
    obtain ⟨m1, m2, m3⟩ := mem_wr hs
    exact ⟨s, rfl, by omega, m3 hb, by omega, hK⟩
  · rw [List.nil_append, List.filter_eq_self.mpr (fun _ _ => rfl), if_neg Bool.false_ne_true]
    exact join_txs hb hw rfl hQ
/-- a history's text: valid histories -/
def spFHy : Spec := fun ds cs Q _ => ∃ x ss, ds = [x] ∧ getQ x cs = some (stDs ss) ∧ vlL 0 ss ∧ wrL ss ≤ 100 ∧ nbs ss ∧ Q (.str (SX.S (txL ss))) cs
end G

namespace K50
open G
open PySem (Str)
theorem plL_tp : ∀ ss : List Stp, plL1 ss = tpL ss := by
  have aux : (∀ s : Stp, plS1 s = tpS s) ∧ ∀ ss : List Stp, plL1 ss = tpL ss := by
    refine ⟨fun s => ?_, fun ss => ?_⟩
    · exact Stp.rec (motive_1 := fun s => plS1 s = tpS s) (motive_2 := fun ss => plL1 ss = tpL ss) (fun i => by rw [plS1, tpS]) (fun c a => by rw [plS1, tpS]) (fun n b ss ih => by rw [plS1, tpS, ih]) (by rw [plL1, tpL]) (fun s ss h1 h2 => by rw [plL1, tpL, h1, h2]) s
    · exact Stp.rec_1 (motive_1 := fun s => plS1 s = tpS s) (motive_2 := fun ss => plL1 ss = tpL ss) (fun i => by rw [plS1, tpS]) (fun c a => by rw [plS1, tpS]) (fun n b ss ih => by rw [plS1, tpS, ih]) (by rw [plL1, tpL]) (fun s ss h1 h2 => by rw [plL1, tpL, h1, h2]) ss
  exact aux.2
theorem ok_fhy : okFn 1 (c_format_history spCHgR (spFSs 10)) spFHy := by
  rintro ds cs Q X ⟨x, ss, rfl, hx, hv, hw, hb, hQ⟩
  show wpS (.seq (c_format_history_1 spCHgR (spFSs 10)) (c_format_history_2 spCHgR (spFSs 10))) [some x] cs _
  have dp := vlL_dp 0 ss hv (by omega)
  simp only [wpS]
  rw [c_format_history_1]
  simp only [wpS, wpE, wpEs, getV]
  refine .inl ⟨x, ss, rfl, hx, hv, hw, ?_⟩
  rw [c_format_history_2]
  simp only [wpS, wpE, wpEs, getV]
  exact ⟨x, ss, rfl, hx, by omega, hb, by omega, hQ⟩
/-- the texts of valid histories read -/
def spPHM : G.Spec := fun ds cs Q _ => ∃ ss, ds = [.str (SX.S (txL ss))] ∧ vlL 0 ss ∧ wrL ss ≤ 100 ∧ nbs ss ∧ ∀ m cs', Kp [] cs cs' → cs m = none → cs' m = some (.lst (stDs (tpL ss))) → Q (.ref m) cs'
def spPH : G.Spec := fun ds cs Q _ => ∃ ss, ds = [.str (SX.S (txL ss))] ∧ vlL 0 ss ∧ wrL ss ≤ 100 ∧ nbs ss ∧ ∀ cs', Kp [] cs cs' → Q (.lst (stDs (tpL ss))) cs'
theorem conv_spPH (ds : List D) (cs : Cs) (Q : KD) (X : KX) (h : spPH ds cs Q X) : frzS spPHM ds cs Q X := by
  obtain ⟨ss, rfl, hv, hw, hb, hQ⟩ := h
  refine ⟨ss, rfl, hv, hw, hb, fun m cs' k hm hc => ⟨m, _, rfl, hc, hQ _ fun j hj hn => ?_⟩⟩
  have : j ≠ m := fun z => hn (by rw [z]; exact hm)
  rw [show del cs' m j = cs' j from if_neg this]
  exact k j hj hn
theorem ok_phm (C : Nat) : okFn 4 (cM_parse_historyX C (spRIni C) (spRSs C 10) spCHgR) spPHM := by
  rintro ds cs Q X ⟨ss, rfl, hv, hw, hb, hQ⟩
  show wpS (.seq (cM_parse_historyX_1 C (spRIni C) (spRSs C 10) spCHgR) (.seq (cM_parse_historyX_2 C (spRIni C) (spRSs C 10) spCHgR) (.seq (cM_parse_historyX_4 C (spRIni C) (spRSs C 10) spCHgR) (.seq (cM_parse_historyX_6 C (spRIni C) (spRSs C 10) spCHgR) (cM_parse_historyX_7 C (spRIni C) (spRSs C 10) spCHgR))))) [some (.str (SX.S (txL ss))), none, none, none] cs _
  have dp := vlL_dp 0 ss hv (by omega)
  have tl := txL_len ss hb
  have sg : sgn (txL ss) := fun c hc => by have := txL_sg ss c hc; omega
  simp only [wpS]
  rw [cM_parse_historyX_1]
  simp only [wpS, wpE, wpEs, getV]
  intro n hn
  refine ⟨n, txL ss, rfl, put_same, ?_⟩
  rw [put_put]
  refine ⟨rfl, ?_⟩
  have h1 : RdAt C n (txL ss) (txL ss) (nstD 4) (put cs n (rdr C (txL ss) (txL ss) 0)) := ⟨put_same, List.suffix_refl _, sg, by omega⟩
  have kp1 : Kp [] cs (put cs n (rdr C (txL ss) (txL ss) 0)) := kp_putN Kp.refl hn
  generalize put cs n (rdr C (txL ss) (txL ss) 0) = c1 at h1 kp1
  simp only [bindP, List.set]
  rw [cM_parse_historyX_2]
  simp only [wpS, wpE, wpEs, getV]
  refine ⟨h1.chS, n, _, _, 4, rfl, by omega, by omega, h1, ?_⟩
  have e := rdLs_tx ss 4 [] (by omega) hb (.inl rfl)
  rw [List.append_nil] at e
  rw [e]
  dsimp only
  intro m c2 k2 hm hm2 hn2
  have mn : m ≠ n := fun z => by rw [z] at hm; rw [h1.at_] at hm; cases hm
  have h2 : RdAt C n (txL ss) [] (nstD 4) c2 := ⟨hn2, List.nil_suffix, sg, by omega⟩
  have kp2 : Kp [] cs c2 := kp1.own k2 fun x hx => by simp at hx; subst hx; exact hn
  have hm0 : cs m = none := kp1.fresh hm
  rw [rsDs_toRs, plL_tp] at hm2
  simp only [bindP, List.set]
  rw [cM_parse_historyX_4]
  simp only [wpS, wpE, wpEs, getV]
  refine h2.pos ?_
  refine ⟨by rw [SX.S_len]; show _ ≤ 16777216; omega, ?_⟩
  dsimp only
  rw [SX.S_len, sLt_i, decide_eq_false (by simp)]
  simp only [Bool.false_eq_true, if_false]
  rw [cM_parse_historyX_6]
  simp only [wpS]
  rw [cM_parse_historyX_5]
  simp only [wpS, wpE, wpEs, getV]
  refine .inl ⟨.ref m, tpL ss, rfl, getQ_cell hm2, by rw [← plL_tp]; exact plL_vl 0 ss hv, by rw [← plL_tp, plL_wr]; exact hw, ?_⟩
  rw [cM_parse_historyX_7]
  simp only [wpS, wpE, wpEs, getV]
  exact hQ m c2 kp2 hm0 hm2
/-! ### the law's own text -/
def spLT : Nat → G.Spec
  | 0 => fun _ _ _ _ => False
  | i + 1 => fun ds cs Q _ => ∃ x ss, ds = [x] ∧ isSeq x (stDs ss) ∧ dpL ss ≤ i ∧ nbs ss ∧ wrL ss ≤ 1000 ∧ Q (.str (SX.S (txL ss))) cs
theorem spLT_e {i : Nat} {x : D} {ss : List Stp} {cs : Cs} {Q : KD} {X : KX} (hx : isSeq x (stDs ss)) (hd : dpL ss < i) (hb : nbs ss) (hw : wrL ss ≤ 1000) (hQ : Q (.str (SX.S (txL ss))) cs) : spLT i [x] cs Q X := by
  cases i with
  | zero => omega
  | succ i => exact ⟨x, ss, rfl, hx, by omega, hb, hw, hQ⟩
theorem ok_lt (i : Nat) : okFnL 3 (c_l_text (spLT i)) (spLT (i + 1)) := by
  rintro ds cs Q X ⟨x, ss, rfl, hx, hd, hb, hw, hQ⟩
  show wpS (.seq (c_l_text_1 (spLT i)) (.seq (c_l_text_7 (spLT i)) (c_l_text_8 (spLT i)))) [some x, none, none] cs _
  have wl := wrL_len ss
  refine wpS_seq ?_
  rw [c_l_text_1]
  simp only [wpS, wpE, wpEs, getV]
  refine ⟨by show 0 ≤ 16777216; omega, fun r hr => ?_⟩
  simp only [bindP, List.set]
  rw [c_l_text_7]
  simp only [wpS, wpE, wpEs, getV]
  refine iSeq_e hx (forL_rest (fun rest σ c => ∃ done a2, done ++ rest = ss ∧ c = put cs r (.lst (done.map fun s => D.str (SX.S (txS s)))) ∧ σ = [some x, some (.ref r), a2]) (fun _ _ _ _ => hx.g) ?_ ?_ ss ⟨[], _, rfl, rfl, rfl⟩)
  · rintro s rest σ c ⟨done, a2, e, rfl, rfl⟩ K' h1 h2 h3
    have hs : s ∈ ss := by rw [← e]; simp
    obtain ⟨m1, m2, m3⟩ := mem_wr hs
    have hbs := m3 hb
    have ln := txS_len s hbs
    have el : done.length + rest.length + 1 = ss.length := by rw [← e]; simp; omega
    simp only [List.set]
    have app : ∀ (ee : E) (t : List Nat), t = txS s → Ev ee [some x, some (.ref r), some (stD s)] (put cs r (.lst (done.map fun s => D.str (SX.S (txS s))))) (.str (SX.S t)) → wpS (.exp (.meth chkL sAppend (.v 1) (.cons ee .nil))) [some x, some (.ref r), some (stD s)] (put cs r (.lst (done.map fun s => D.str (SX.S (txS s))))) K' := fun ee t et he => by
      simp only [wpS, wpE_meth, wpE_v, getV, chkL_ref, put_same]
      refine ⟨trivial, (Evs.one he) _ _ ?_⟩
      rw [sAppend_e, put_same]
      dsimp only
      refine ⟨by rw [List.length_map]; show _ < 16777216; omega, ?_⟩
      rw [put_put]
      refine h1 _ _ ⟨done ++ [s], _, by rw [← e]; simp, ?_, rfl⟩
      rw [List.map_append, et]
      rfl
    rw [c_l_text_6]
    simp only [wpS, wpE, wpEs, getV, isi_st]
    cases s with
    | nd j =>
      rw [nbS] at hbs
      simp only [if_true]
      rw [c_l_text_2]
      exact app _ (intL j) (by rw [txS]) (.strN (.var (by simp [getV, stD])) hbs)
    | lk a b =>
      rw [nbS] at hbs
      have l1 := intL_len hbs.1
      have l2 := intL_len hbs.2
      simp only [Bool.false_eq_true, if_false]
      rw [c_l_text_5]
      simp only [wpS, wpE, wpEs, getV, stD, sIx_e, getQ, ix3_0, strE_e ok_lkS ok_lkS]
      show wpS _ _ _ _
      rw [c_l_text_3]
      rw [stD] at app
      have i1 : Ev (.app sIx (.cons (.v 2) (.cons (.c (.int 1)) .nil))) [some x, some (.ref r), some (D.tup [.str "link", .int a, .int b])] (put cs r (.lst (done.map fun s => D.str (SX.S (txS s))))) (.int a) := .app (.two (.var rfl) .con) (ixS_d rfl rfl)
      have i2 : Ev (.app sIx (.cons (.v 2) (.cons (.c (.int 2)) .nil))) [some x, some (.ref r), some (D.tup [.str "link", .int a, .int b])] (put cs r (.lst (done.map fun s => D.str (SX.S (txS s))))) (.int b) := .app (.two (.var rfl) .con) (ixS_d rfl rfl)
      exact app _ (intL a ++ [62] ++ intL b) (by rw [txS]) (.addS (.addS (.strN i1 hbs.1) (.conS gt_S) (by simp; omega)) (.strN i2 hbs.2) (by simp; omega))
    | rp n b us =>
      have hbs' := hbs
      rw [nbS] at hbs
      rw [dpS] at m2
      rw [wrS] at m1
      have l1 := intL_len (natInt hbs.1)
      have l2 := txL_len us hbs.2
      simp only [Bool.false_eq_true, if_false]
      rw [c_l_text_5]
      simp only [wpS, wpE, wpEs, getV, stD, sIx_e, getQ, ix3_0, strE_e ok_rpS ok_lkS]
      show wpS _ _ _ _
      rw [c_l_text_4]
      rw [stD] at app
      obtain ⟨j, rfl⟩ : ∃ j, i = j + 1 := ⟨i - 1, by omega⟩
      have i1 : Ev (.app sIx (.cons (.v 2) (.cons (.c (.int 1)) .nil))) [some x, some (.ref r), some (D.tup [.str "repeat", .int (n : Nat), sqD b (stDs us)])] (put cs r (.lst (done.map fun s => D.str (SX.S (txS s))))) (.int (n : Nat)) := .app (.two (.var rfl) .con) (ixS_d rfl rfl)
      have i2 : Ev (.app (spLT (j + 1)) (.cons (.app sIx (.cons (.v 2) (.cons (.c (.int 2)) .nil))) .nil)) [some x, some (.ref r), some (D.tup [.str "repeat", .int (n : Nat), sqD b (stDs us)])] (put cs r (.lst (done.map fun s => D.str (SX.S (txS s))))) (.str (SX.S (txL us))) :=
        .app (.one (.app (d := sqD b (stDs us)) (.two (.var rfl) .con) (ixS_d rfl rfl))) fun Q X k => ⟨_, us, rfl, by cases b; exact .inl rfl; exact .inr rfl, by omega, hbs.2, by omega, k⟩
      exact app _ (intL (n : Nat) ++ [42, 40] ++ txL us ++ [41]) (by rw [txS_rp]) (.addS (.addS (.addS (.strN i1 (natInt hbs.1)) (.conS star2_S) (by simp; omega)) i2 (by simp; omega)) (.conS rp_S) (by simp; omega))
  · rintro σ c ⟨done, a2, e, rfl, rfl⟩
    rw [List.append_nil] at e
    subst e
    rw [c_l_text_8]
    simp only [wpS, wpE, wpEs, getV]
    refine ⟨⟨" ", rfl⟩, join_txs hb (by omega) (getL_cell put_same) ⟨cs, (Le.refl cs).put hr, hQ⟩⟩
end K50

namespace K50
open G
open PySem (Str)
abbrev Lw (c : G.Spec → G.Spec → G.Spec → G.Spec → G.Spec → G.Spec → G.Spec → G.Spec → G.Spec → G.Spec → G.Spec → S) : S := c spOf (spPl 5) spLR (spSR 20) spStart spTake (spLT 5) (spWr 5) spFHy spPH spPHM
/-- steps of the law's histories -/
def okL (ss : List Stp) : Prop := ∀ s ∈ ss, vlS 0 s ∧ nbS s ∧ dpS s ≤ 3 ∧ wrS s ≤ 40
theorem nbs_of : ∀ {ss : List Stp}, (∀ s ∈ ss, nbS s) → nbs ss
  | [], _ => by rw [nbs]; trivial
  | s :: ss, h => by
    rw [nbs]
    exact ⟨h s List.mem_cons_self, nbs_of fun x hx => h x (List.mem_cons_of_mem _ hx)⟩
theorem okS_nb {m : Int} (hm : m ≤ 10 ^ 30) : ∀ (d : Nat) (s : Stp), okS m d s → nbS s
  | _, .nd i, h => by
    rw [nbS]
    have h : 0 ≤ i ∧ i < m := by cases ‹Nat› <;> simpa [okS] using h
    omega
  | 0, .rp n b ss, h => by simp [okS] at h
  | 0, .lk a b, h => by simp [okS] at h
  | d + 1, .lk a b, h => by simp [okS] at h
  | d + 1, .rp n b ss, h => by
    have h : n ≤ 10 ^ 30 ∧ ss.length ≤ 3 ∧ ∀ s ∈ ss, okS m d s := by simpa [okS] using h
    rw [nbS]
    exact ⟨by omega, nbs_of fun s hs => okS_nb hm d s (h.2.2 s hs)⟩
theorem wrM3 : ∀ d, d ≤ 3 → wrM d ≤ 40 := by decide
theorem okL_of {m : Int} (hm : m ≤ 10 ^ 30) {d : Nat} (hd : d ≤ 3) {ss : List Stp} (h : ∀ s ∈ ss, okS m d s) : okL ss := fun s hs => ⟨okS_vl d 0 s (h s hs) (by omega), okS_nb hm d s (h s hs), Nat.le_trans (okS_dp d s (h s hs)) hd, Nat.le_trans (okS_wr d s (h s hs)) (wrM3 d hd)⟩
theorem okL.facts {ss : List Stp} (h : okL ss) (hl : ss.length ≤ 8) : vlL 0 ss ∧ nbs ss ∧ dpL ss ≤ 3 ∧ wrL ss ≤ 320 := by
  have := wrL_le (B := 40) ss fun s hs => (h s hs).2.2.2
  exact ⟨vlL_of ss fun s hs => (h s hs).1, nbs_of fun s hs => (h s hs).2.1, dpL_of ss fun s hs => (h s hs).2.2.1, by omega⟩
def deep : Stp := .rp 1 true [.rp 2 true [.rp 3 true [.rp (10 ^ 30) true [.nd (-5)]]]]
theorem deep_ok : vlL 0 [deep] ∧ wrL [deep] ≤ 100 ∧ nbs [deep] ∧ tpL [deep] = [deep] ∧ dpL [deep] ≤ 4 := by
  refine ⟨?_, ?_, ?_, ?_, ?_⟩
  · simp [deep, vlL, vlS]
  · simp [deep, wrL, wrS]
  · simp [deep, nbs, nbS]
  · simp [deep, tpL, tpS]
  · simp [deep, dpL, dpS]
theorem txL_sgn (ss : List Stp) : sgn (txL ss) := fun c hc => by have := txL_sg ss c hc; omega
theorem pair_pur {ss : List Stp} (hd : dpL ss ≤ 4) (hw : wrL ss ≤ 1000) : pur 19 (.lst [.str (SX.S (txL ss)), .lst (stDs (tpL ss))]) = true := by
  have e := plL_tp ss
  have hw' : wrL (tpL ss) ≤ 1000 := by rw [← e, plL_wr]; exact hw
  have hd' : dpL (tpL ss) ≤ 4 := by rw [(tpL_wr ss).2]; exact hd
  have hl : (stDs (tpL ss)).length ≤ 16777216 := by rw [stDs_len]; have := wrL_len (tpL ss); omega
  show (decide (2 ≤ 16777216) && (pur 18 (.str (SX.S (txL ss))) && ((decide ((stDs (tpL ss)).length ≤ 16777216) && purs 17 (stDs (tpL ss))) && true))) = true
  rw [show pur 18 (.str (SX.S (txL ss))) = true from sgn_ok (txL_sgn ss), stDs_pur 17 _ (by omega) hw', decide_eq_true hl]
  rfl
theorem fh_e {x : D} {ss : List Stp} {cs : Cs} {Q : KD} {X : KX} (hx : getQ x cs = some (stDs ss)) (hv : vlL 0 ss) (hw : wrL ss ≤ 100) (hb : nbs ss) (hQ : Q (.str (SX.S (txL ss))) cs) : spFHy [x] cs Q X := ⟨x, ss, rfl, hx, hv, hw, hb, hQ⟩
theorem ok_law : okFn 11 (Lw c_law) spLaw := by
  rintro ds cs Q X ⟨rfl, hQ⟩
  show wpS (.seq (Lw c_law_1) (.seq (Lw c_law_16) (.seq (Lw c_law_17) (Lw c_law_18)))) [some .scr, none, none, none, none, none, none, none, none, none, none] cs _
  unfold Lw
  simp only [wpS]
  rw [c_law_1]
  simp only [wpS, wpE, wpEs, getV]
  rw [spStart_e]
  intro n hn
  simp only [bindP, List.set]
  have hc : (put cs n .drw) n = some .drw := put_same
  generalize put cs n .drw = c0 at hc
  rw [c_law_16]
  simp only [wpS, wpE, wpEs, getV]
  refine rng1_inv (fun j σ c => c n = some .drw ∧ ∃ a2 a3 a4 a5 a6 a7 a8 a9, σ = [some .scr, some (.ref n), a2, a3, a4, a5, a6, a7, a8, a9, none]) (by omega) (by omega) ⟨hc, _, _, _, _, _, _, _, _, rfl⟩ ?_ ?_
  · rintro j σ c _ ⟨hc, a2, a3, a4, a5, a6, a7, a8, a9, rfl⟩ K' h1 h2 h3 h4 h5
    rw [c_law_2]
    simp only [wpS, wpE, wpEs, getV, List.set, sPow_i]
    refine ⟨powOk_c (by decide), by show 2 ≤ 16777216; omega, ?_⟩
    dsimp only
    rw [spOf_e]
    refine ⟨hc, fun _ => by simp, _, rfl, by simp, by show 2 ≤ 16777216; omega, fun d hd => ?_⟩
    obtain ⟨m, rfl, hm⟩ : ∃ m : Int, d = .int m ∧ (m = 9 ∨ m = 10 ^ 30) := by
      simp only [List.mem_cons, List.not_mem_nil, or_false] at hd
      rcases hd with rfl | rfl
      · exact ⟨9, rfl, .inl rfl⟩
      · exact ⟨10 ^ 30, rfl, .inr rfl⟩
    have hm1 : 0 < m ∧ m ≤ 10 ^ 30 := by rcases hm with rfl | rfl <;> decide
    rw [spTake_e]
    refine ⟨hc, by decide, by decide, fun r r0 r3 => ?_⟩
    rw [sAdd_i]
    obtain ⟨d, hd⟩ : ∃ d : Nat, 1 + r = (d : Int) := ⟨(1 + r).toNat, by omega⟩
    rw [hd, show (6 : Int) = ((6 : Nat) : Int) from rfl]
    refine spLR_e hc hm1.1 (Int.le_trans hm1.2 (by decide)) (by decide) (by omega) fun ss hl hss => ?_
    simp only [bindP, List.set]
    rw [c_law_6]
    simp only [wpS, wpE, wpEs, getV]
    rw [spTake_e]
    refine ⟨hc, by decide, by decide, fun q q0 q3 => ?_⟩
    refine rng1_inv (fun i σ c' => c' = c ∧ ∃ ss a4 a5, σ = [some .scr, some (.ref n), some (.int (j : Nat)), some (.lst (stDs ss)), a4, a5, a6, a7, a8, a9, none] ∧ okL ss ∧ ss.length ≤ 6 + i) (by omega) (by omega) ⟨rfl, ss, _, _, rfl, okL_of hm1.2 (by omega) hss, by omega⟩ ?_ ?_
    · rintro i σ c' hi ⟨rfl, ss, a4, a5, rfl, ho, hl⟩ K2 k1 k2 k3 k4 k5
      have hi3 : i < 3 := by omega
      rw [c_law_3]
      simp only [wpS, wpE, wpEs, getV, List.set]
      rw [len_s (.inl rfl), stDs_len, sAdd_i, spTake_e]
      refine ⟨hc, by omega, by omega, fun p p0 p1 => ?_⟩
      obtain ⟨p, rfl⟩ := Int.eq_ofNat_of_zero_le p0
      simp only [bindP, List.set]
      rw [c_law_4]
      simp only [wpS, wpE, wpEs, getV]
      rw [spTake_e]
      refine ⟨hc, by decide, by decide, fun u u0 u1 => ?_⟩
      rw [spTake_e]
      refine ⟨hc, by decide, by decide, fun v v0 v1 => ?_⟩
      rw [sSub_i]
      refine ⟨by show 3 ≤ 16777216; omega, ?_⟩
      dsimp only
      rw [sPow_i]
      refine ⟨powOk_c (by decide), ?_⟩
      rw [spTake_e]
      refine ⟨hc, by decide, by decide, fun w w0 w1 => ?_⟩
      rw [sSub_i]
      refine ⟨by show 2 ≤ 16777216; omega, ?_⟩
      dsimp only
      rw [spOf_e]
      refine ⟨hc, fun _ => by simp, _, rfl, by simp, by show 2 ≤ 16777216; omega, fun d hd => ?_⟩
      obtain ⟨s, hs, hso⟩ : ∃ s, d = stD s ∧ (vlS 0 s ∧ nbS s ∧ dpS s ≤ 3 ∧ wrS s ≤ 40) := by
        simp only [List.mem_cons, List.not_mem_nil, or_false] at hd
        rcases hd with rfl | rfl
        · refine ⟨.lk u (0 - v), by rw [stD], by rw [vlS], ?_, by rw [dpS]; omega, by rw [wrS]; omega⟩
          rw [nbS]
          omega
        · refine ⟨.nd (0 - w), by rw [stD], by rw [vlS]; trivial, ?_, by rw [dpS]; omega, by rw [wrS]; omega⟩
          rw [nbS]
          have : (10 : Int) ^ (30 : Int).toNat = 10 ^ 30 := rfl
          rw [this] at w1
          omega
      subst hs
      simp only [bindP, List.set]
      rw [c_law_5]
      simp only [wpS, wpE, wpEs, getV]
      show sCutHi [.lst (stDs ss), .int ((p : Nat) : Int)] c' _ _
      rw [cutHi_l]
      refine ⟨by show 1 ≤ 16777216; omega, ?_⟩
      dsimp only
      rw [sAdd_l]
      refine ⟨by simp only [List.length_take, List.length_cons, List.length_nil, stDs_len]; show _ ≤ 16777216; omega, ?_⟩
      show sCutLo [.lst (stDs ss), .int ((p : Nat) : Int)] c' _ _
      rw [cutLo_d, sAdd_l]
      refine ⟨by simp only [List.length_append, List.length_take, List.length_drop, List.length_cons, List.length_nil, stDs_len]; show _ ≤ 16777216; omega, ?_⟩
      simp only [bindP, List.set]
      have e : (stDs ss).take p ++ [stD s] ++ (stDs ss).drop p = stDs (ss.take p ++ [s] ++ ss.drop p) := by
        rw [stDs_map, stDs_map, List.map_append, List.map_append, List.map_take, List.map_drop]
        rfl
      rw [e]
      refine k1 _ _ ⟨rfl, _, _, _, rfl, fun x hx => ?_, ?_⟩
      · simp only [List.mem_append, List.mem_singleton] at hx
        rcases hx with (hx | hx) | hx
        · exact ho x (List.mem_of_mem_take hx)
        · rw [hx]; exact hso
        · exact ho x (List.mem_of_mem_drop hx)
      · simp only [List.length_append, List.length_take, List.length_drop, List.length_cons, List.length_nil]
        omega
    · rintro σ c' ⟨rfl, ss, a4, a5, rfl, ho, hl⟩
      obtain ⟨hv, hb, hd, hw⟩ := ho.facts (by omega)
      have gq : getQ (.lst (stDs ss)) c' = some (stDs ss) := rfl
      rw [c_law_7]
      simp only [wpS, wpE, wpEs, getV]
      refine spWr_e gq (by omega) ?_
      rw [sGt_i]
      by_cases hw1 : 100 < wrL ss
      · rw [decide_eq_true (by omega)]
        simp only [if_true, wpS]
        exact h2 _ _ ⟨hc, _, _, _, _, _, _, _, _, rfl⟩
      rw [decide_eq_false (by omega)]
      simp only [Bool.false_eq_true, if_false]
      have lt : ∀ (Q : KD) (X : KX), Q (.str (SX.S (txL ss))) c' → spLT 5 [.lst (stDs ss)] c' Q X := fun Q X k => spLT_e (.inl rfl) (by omega) hb (by omega) k
      refine lt _ _ ?_
      have tl := txL_len ss hb
      refine ⟨by rw [SX.S_len]; show _ ≤ 16777216; omega, ?_⟩
      rw [SX.S_len]
      dsimp only
      rw [sGt_i]
      by_cases hw2 : 4000 < (txL ss).length
      · rw [decide_eq_true (by omega)]
        simp only [if_true, wpS]
        exact h2 _ _ ⟨hc, _, _, _, _, _, _, _, _, rfl⟩
      rw [decide_eq_false (by omega)]
      simp only [Bool.false_eq_true, if_false]
      rw [c_law_8]
      simp only [wpS, wpE, wpEs, getV]
      refine lt _ _ (spPl_e (.inl rfl) (by omega) (by omega) ⟨by show 2 ≤ 16777216; omega, ?_⟩)
      simp only [bindP, List.set]
      rw [c_law_13]
      simp only [wpS, wpE, wpEs, getV]
      have hwt : wrL (tpL ss) ≤ 100 := by rw [← plL_tp, plL_wr]; omega
      have hdt : dpL (tpL ss) ≤ 3 := by rw [(tpL_wr ss).2]; exact hd
      have lt2 : (stDs (tpL ss)).length ≤ 100 := by rw [stDs_len]; have := wrL_len (tpL ss); omega
      have pts : purs 17 (stDs (tpL ss)) = true := stDs_pur 17 (tpL ss) (by omega) (by omega)
      refine rng1_inv (fun i σ c => c n = some .drw ∧ ∃ a8 a9, σ = [some .scr, some (.ref n), some (.int (j : Nat)), some (.lst (stDs ss)), a4, a5, some (.str (SX.S (txL ss))), some (.lst (stDs (tpL ss))), a8, a9, none]) (by omega) (by omega) ⟨hc, _, _, rfl⟩ ?_ ?_
      · rintro i σ c2 _ ⟨hc2, a8, a9, rfl⟩ K2 k1 k2 k3 k4 k5
        rw [c_law_9]
        simp only [wpS, wpE, wpEs, getV, List.set]
        refine ⟨ss, rfl, hv, by omega, hb, fun m c3 kp hm hm3 => ?_⟩
        have hc3 := kp.at_ hc2 (by simp)
        have mn : m ≠ n := fun z => by rw [z] at hm3; rw [hc3] at hm3; cases hm3
        simp only [bindP, List.set]
        rw [c_law_11]
        simp only [wpS, wpE, wpEs, getV]
        refine fh_e rfl hv (by omega) hb ⟨by show 2 ≤ 16777216; omega, by show 2 ≤ 16777216; omega, ?_⟩
        refine spSR_e (k := 19) (t := .lst [.str (SX.S (txL ss)), .lst (stDs (tpL ss))]) (den_lstL (by show 2 ≤ 16777216; omega) (dW_cons (den_s (sgn_ok (txL_sgn ss))) (dW_cons (den_cell hm3 pts (by show _ ≤ 16777216; omega)) rfl))) (den_pur 19 _ (pair_pur (by omega) (by omega))) ?_
        rw [sNot_e]
        simp only [Bool.not_true, Bool.false_eq_true, if_false]
        rw [c_law_12]
        simp only [wpS, wpE, wpEs, getV, chkL_ref, hm3]
        refine ⟨trivial, ?_⟩
        rw [sAppend_e, hm3]
        dsimp only
        refine ⟨by show _ < 16777216; omega, k1 _ _ ⟨?_, _, _, rfl⟩⟩
        rw [put_ne (Ne.symm mn)]
        exact hc3
      · rintro σ c2 ⟨hc2, a8, a9, rfl⟩
        rw [c_law_15]
        simp only [wpS, wpE, wpEs, getV, sTupOf_e, getQ_lst]
        refine ⟨rfl, rfl, fh_e rfl hv (by omega) hb ⟨rfl, rfl, ss, rfl, hv, by omega, hb, fun c3 kp => ?_⟩⟩
        have hc3 := kp.at_ hc2 (by simp)
        refine ⟨by show 2 ≤ 16777216; omega, by show 2 ≤ 16777216; omega, ?_⟩
        refine spSR_p (k := 19) (pair_pur (by omega) (by omega)) ?_
        rw [sNot_e]
        simp only [Bool.not_true, Bool.false_eq_true, if_false]
        exact h1 _ _ ⟨hc3, _, _, _, _, _, _, _, _, rfl⟩
  · rintro σ c ⟨hc, a2, a3, a4, a5, a6, a7, a8, a9, rfl⟩
    obtain ⟨v1, v2, v3, v4, v5⟩ := deep_ok
    rw [c_law_17]
    simp only [wpS, wpE, wpEs, getV, sPow_i, sSub_i, sTup_e]
    refine ⟨powOk_c (by decide), by show 1 ≤ 16777216; omega, by show 3 ≤ 16777216; omega, by show 1 ≤ 16777216; omega, by show 3 ≤ 16777216; omega, by show 1 ≤ 16777216; omega, by show 3 ≤ 16777216; omega, by show 1 ≤ 16777216; omega, by show 3 ≤ 16777216; omega, ?_⟩
    simp only [bindP, List.set]
    have ed : (D.tup [.str "repeat", .int 1, .tup [.tup [.str "repeat", .int 2, .tup [.tup [.str "repeat", .int 3, .tup [.tup [.str "repeat", .int (10 ^ (30 : Int).toNat), .tup [.int (0 - 5)]]]]]]]]) = stD deep := by
      simp [deep, stD, stDs, sqD]
    rw [ed]
    rw [c_law_18]
    simp only [wpS, wpE, wpEs, getV, sList_e]
    refine ⟨by show 1 ≤ 16777216; omega, fh_e (ss := [deep]) (by rw [stDs_map]; rfl) v1 v2 v3 ⟨_, rfl, v1, v2, v3, fun c1 kp => ?_⟩⟩
    refine ⟨[], by rw [txL_nil, S_nil], by simp [vlL], by simp [wrL], by simp [nbs], fun c2 kp2 => ?_⟩
    refine ⟨by show 0 ≤ 16777216; omega, fh_e (ss := []) (by simp [stDs]) (by simp [vlL]) (by simp [wrL]) (by simp [nbs]) ?_⟩
    refine ⟨by show 3 ≤ 16777216; omega, by show 1 ≤ 16777216; omega, by show 0 ≤ 16777216; omega, by show 3 ≤ 16777216; omega, ?_⟩
    rw [v4, txL_nil, ← S_nil]
    have es : stDs [deep] = [stD deep] := by rw [stDs_map]; rfl
    have en : stDs (tpL []) = [] := by simp [tpL, stDs]
    rw [es, en]
    refine spSR_p (k := 19) ?_ (hQ _)
    have : pur 17 (stD deep) = true := stD_pur 17 deep (by simp [deep, dpL, dpS]) (by simp [deep, wrL, wrS])
    show (decide (3 ≤ 16777216) && ((decide (1 ≤ 16777216) && (pur 17 (stD deep) && true)) && ((decide (0 ≤ 16777216) && true) && (pur 18 (.str "") && true)))) = true
    rw [this]
    decide +kernel
end K50

/-! GBor: a cell handed to a def whose promise is about trees: for the call it is read as a tree. -/
namespace G
open PySem PySem.Spec L2
open Evl (Ex)
/-- no list, no cell within -/
inductive FlD : D → Prop
  | non : FlD .non
  | bl (b : Bool) : FlD (.bl b)
  | int (i : Int) : FlD (.int i)
  | str (s : Str) : FlD (.str s)
  | tup (xs : List D) (h : ∀ d ∈ xs, FlD d) : FlD (.tup xs)
section
variable {K : PySem.W.Frag} {wd wd1 wd2 wd' : Wd} {F H H' : Hp} {cs cs' : Cs} {a : Addr}
theorem RpL.each : ∀ {ds : List D} {vs : List V}, (∀ d ∈ ds, ∀ v, Rp K wd d v → Rp K wd2 d v) → RpL K wd ds vs → RpL K wd2 ds vs
  | [], vs, _, r => r
  | d :: ds, vs, h, ⟨v, us, e, r, rr⟩ => ⟨v, us, e, h d List.mem_cons_self v r, RpL.each (fun d' hd => h d' (List.mem_cons_of_mem _ hd)) rr⟩
theorem FlD.rp (hB : ∀ a xs, wd.B a = some (.tup xs) → wd2.B a = some (.tup xs)) {d : D} (h : FlD d) : ∀ v, Rp K wd d v → Rp K wd2 d v := by
  induction h with
  | non => exact fun v r => r
  | bl b => exact fun v r => r
  | int i => exact fun v r => r
  | str s => exact fun v r => r
  | tup xs h ih =>
    rintro v ⟨a, vs, e, hb, r⟩
    exact ⟨a, vs, e, hB _ _ hb, RpL.each ih r⟩
theorem RpL.swap {d' : D} : ∀ {ds : List D} {vs : List V} {i : Nat}, RpL K wd ds vs → (∀ j d, j ≠ i → ds[j]? = some d → ∀ v, Rp K wd d v → Rp K wd1 d v) → (∀ v, vs[i]? = some v → Rp K wd1 d' v) → RpL K wd1 (ds.set i d') vs
  | [], vs, i, r, _, _ => r
  | d :: ds, vs, 0, ⟨v, us, e, r, rr⟩, h, h' => by
    refine ⟨v, us, e, h' v (by rw [e]; rfl), RpL.each (fun d2 hd v2 r2 => ?_) rr⟩
    obtain ⟨j, hj⟩ := List.getElem?_of_mem hd
    exact h (j + 1) d2 (by omega) (by rw [List.getElem?_cons_succ]; exact hj) v2 r2
  | d :: ds, vs, i + 1, ⟨v, us, e, r, rr⟩, h, h' => by
    refine ⟨v, us, e, h 0 d (by omega) rfl v r, RpL.swap rr (fun j d2 hj hd => h (j + 1) d2 (by omega) (by rw [List.getElem?_cons_succ]; exact hd)) fun v2 hv => h' v2 ?_⟩
    rw [e, List.getElem?_cons_succ]
    exact hv
open Classical in
open Classical in
end
section
variable {P : Program} {w : World} {K : PySem.W.Frag} {mg : Str → Option Value} {base : Heap} {k : Nat} {f : Addr} {fd : FuncData} {ps : List Str} {sp : Spec} {i : Nat}
end
end G

/-! GBorM: the same for a def that returns a fresh cell. -/
namespace G
open PySem PySem.Spec L2
open Evl (Ex)
section
variable {K : PySem.W.Frag} {wd wd' : Wd} {F H H' : Hp} {cs cs' : Cs} {a b : Addr}
end
section
variable {P : Program} {w : World} {K : PySem.W.Frag} {mg : Str → Option Value} {base : Heap} {k : Nat} {f : Addr} {fd : FuncData} {ps : List Str} {sp : Spec} {i : Nat}
end
end G

/-! GObjE: methods and classes handed over. -/
namespace G
open PySem PySem.Spec L2
section
variable {P : Program} {w : World} {K : PySem.W.Frag} {mg : Str → Option Value} {base : Heap} {x y m qual : Str} {params : Arguments} {body : List Stmt} {scope : Scope} {C f : Addr} {fd : FuncData} {ps : List Str} {k n : Nat} {sp sp' : Spec} {kws : List (Str × V)} {ks : List Str} {ix : List Nat}
end
end G



namespace K50
open PySem PySem.Spec PyProof.Rows L2 G
theorem facts {P : Program} {w : World} {K : PySem.W.Frag} {h : Heap} {mg : Str → Option Value} {f : Addr} (X : K.In h) (G : h.Ns mainGlobals mg) (hfa : mg ("law" : Str) = some (.ref f)) (cx : He.SaysX fa fn ts tf ex w h K) :
    ∃ fd : FuncData, (∀ (s : Shared) (u : Value), BindsTo s fd ⟨[u], []⟩ [("_law_script", u)]) ∧ ∀ base : Heap, K.In base → base.Ns mainGlobals mg → (∀ p ∈ tf.map (He.cT K), LamX.TabB base mg p.1 p.2) → FnOk P w K mg base (L2N.CX P w) 21 f fd ["_law_script"] (lift K mg spLaw) := by
  have c := cx.t.d
  have e0 := (Bool.and_eq_true_iff.mp cx.more).2
  obtain ⟨eU, e1⟩ := Bool.and_eq_true_iff.mp e0
  obtain ⟨e_BadStep, e2⟩ := Bool.and_eq_true_iff.mp e1
  obtain ⟨e_ParseError, e3⟩ := Bool.and_eq_true_iff.mp e2
  have e_TooLong := e3
  obtain ⟨fd_check_tuple, D_check_tuple⟩ := c.def_ 0 (d := d_check_tuple) rfl
  obtain ⟨fd_check_steps, D_check_steps⟩ := c.def_ 1 (d := d_check_steps) rfl
  obtain ⟨fd_check_history, D_check_history⟩ := c.def_ 2 (d := d_check_history) rfl
  obtain ⟨fd_parse_number, D_parse_number⟩ := c.def_ 3 (d := d_parse_number) rfl
  obtain ⟨fd_format_step, D_format_step⟩ := c.def_ 4 (d := d_format_step) rfl
  obtain ⟨fd_format_steps, D_format_steps⟩ := c.def_ 5 (d := d_format_steps) rfl
  obtain ⟨fd_format_history, D_format_history⟩ := c.def_ 6 (d := d_format_history) rfl
  obtain ⟨fd_parse_history, D_parse_history⟩ := c.def_ 7 (d := d_parse_history) rfl
  obtain ⟨fd__law_start, D__law_start⟩ := c.def_ 8 (d := d__law_start) rfl
  obtain ⟨fd__law_take, D__law_take⟩ := c.def_ 9 (d := d__law_take) rfl
  obtain ⟨fd__law_of, D__law_of⟩ := c.def_ 10 (d := d__law_of) rfl
  obtain ⟨fd__law_same, D__law_same⟩ := c.def_ 11 (d := d__law_same) rfl
  obtain ⟨fd__law_step, D__law_step⟩ := c.def_ 12 (d := d__law_step) rfl
  obtain ⟨fd__law_rounds, D__law_rounds⟩ := c.def_ 13 (d := d__law_rounds) rfl
  obtain ⟨fd__law_written, D__law_written⟩ := c.def_ 14 (d := d__law_written) rfl
  obtain ⟨fd__law_plain, D__law_plain⟩ := c.def_ 15 (d := d__law_plain) rfl
  obtain ⟨fd__law_text, D__law_text⟩ := c.def_ 16 (d := d__law_text) rfl
  obtain ⟨fd_law, D_law⟩ := c.def_ 17 (d := d_law) rfl
  obtain ⟨fd_Reader___init__, D_Reader___init__⟩ := c.def_ 18 (d := d_Reader___init__) rfl
  obtain ⟨fd_Reader_ahead, D_Reader_ahead⟩ := c.def_ 19 (d := d_Reader_ahead) rfl
  obtain ⟨fd_Reader_read_number, D_Reader_read_number⟩ := c.def_ 20 (d := d_Reader_read_number) rfl
  obtain ⟨fd_Reader_expect, D_Reader_expect⟩ := c.def_ 21 (d := d_Reader_expect) rfl
  obtain ⟨fd_Reader_read_step, D_Reader_read_step⟩ := c.def_ 22 (d := d_Reader_read_step) rfl
  obtain ⟨fd_Reader_read_steps, D_Reader_read_steps⟩ := c.def_ 23 (d := d_Reader_read_steps) rfl
  obtain ⟨fd_BadStep, D_BadStep⟩ := c.def_ 24 (d := d_BadStep) rfl
  obtain ⟨fd_ParseError, D_ParseError⟩ := c.def_ 25 (d := d_ParseError) rfl
  obtain ⟨fd_TooLong, D_TooLong⟩ := c.def_ 26 (d := d_TooLong) rfl
  have m_check_tuple : mg "check_tuple" = _ := He.glo_ok X G (c.fact 0 (f := .glo "check_tuple") rfl)
  have m_check_steps : mg "check_steps" = _ := He.glo_ok X G (c.fact 1 (f := .glo "check_steps") rfl)
  have m_check_history : mg "check_history" = _ := He.glo_ok X G (c.fact 2 (f := .glo "check_history") rfl)
  have m_parse_number : mg "parse_number" = _ := He.glo_ok X G (c.fact 3 (f := .glo "parse_number") rfl)
  have m_format_step : mg "format_step" = _ := He.glo_ok X G (c.fact 4 (f := .glo "format_step") rfl)
  have m_format_steps : mg "format_steps" = _ := He.glo_ok X G (c.fact 5 (f := .glo "format_steps") rfl)
  have m_format_history : mg "format_history" = _ := He.glo_ok X G (c.fact 6 (f := .glo "format_history") rfl)
  have m_parse_history : mg "parse_history" = _ := He.glo_ok X G (c.fact 7 (f := .glo "parse_history") rfl)
  have m__law_start : mg "_law_start" = _ := He.glo_ok X G (c.fact 8 (f := .glo "_law_start") rfl)
  have m__law_take : mg "_law_take" = _ := He.glo_ok X G (c.fact 9 (f := .glo "_law_take") rfl)
  have m__law_of : mg "_law_of" = _ := He.glo_ok X G (c.fact 10 (f := .glo "_law_of") rfl)
  have m__law_same : mg "_law_same" = _ := He.glo_ok X G (c.fact 11 (f := .glo "_law_same") rfl)
  have m__law_step : mg "_law_step" = _ := He.glo_ok X G (c.fact 12 (f := .glo "_law_step") rfl)
  have m__law_rounds : mg "_law_rounds" = _ := He.glo_ok X G (c.fact 13 (f := .glo "_law_rounds") rfl)
  have m__law_written : mg "_law_written" = _ := He.glo_ok X G (c.fact 14 (f := .glo "_law_written") rfl)
  have m__law_plain : mg "_law_plain" = _ := He.glo_ok X G (c.fact 15 (f := .glo "_law_plain") rfl)
  have m__law_text : mg "_law_text" = _ := He.glo_ok X G (c.fact 16 (f := .glo "_law_text") rfl)
  have m_law : mg "law" = _ := He.glo_ok X G (c.fact 17 (f := .glo "law") rfl)
  have m_BadStep : mg "BadStep" = _ := He.glo_ok X G (c.fact 18 (f := .glo "BadStep") rfl)
  have m_ParseError : mg "ParseError" = _ := He.glo_ok X G (c.fact 19 (f := .glo "ParseError") rfl)
  have m_TooLong : mg "TooLong" = _ := He.glo_ok X G (c.fact 20 (f := .glo "TooLong") rfl)
  have n_all : mg "all" = none := He.free_ok X G (c.fact 21 (f := .free "all") rfl)
  have n_bool : mg "bool" = none := He.free_ok X G (c.fact 22 (f := .free "bool") rfl)
  have n_int : mg "int" = none := He.free_ok X G (c.fact 23 (f := .free "int") rfl)
  have n_isinstance : mg "isinstance" = none := He.free_ok X G (c.fact 24 (f := .free "isinstance") rfl)
  have n_len : mg "len" = none := He.free_ok X G (c.fact 25 (f := .free "len") rfl)
  have n_list : mg "list" = none := He.free_ok X G (c.fact 26 (f := .free "list") rfl)
  have n_range : mg "range" = none := He.free_ok X G (c.fact 27 (f := .free "range") rfl)
  have n_str : mg "str" = none := He.free_ok X G (c.fact 28 (f := .free "str") rfl)
  have n_tuple : mg "tuple" = none := He.free_ok X G (c.fact 29 (f := .free "tuple") rfl)
  have n_zip : mg "zip" = none := He.free_ok X G (c.fact 30 (f := .free "zip") rfl)
  have m_COUNT_LIMIT := He.int_ok X G (c.fact 31 (f := .int "COUNT_LIMIT" 1000000000000000000000000000000) rfl)
  have m_MAX_DIGITS := He.int_ok X G (c.fact 32 (f := .int "MAX_DIGITS" 31) rfl)
  have m_MAX_NESTING := He.int_ok X G (c.fact 33 (f := .int "MAX_NESTING" 4) rfl)
  have m_MAX_STEPS := He.int_ok X G (c.fact 34 (f := .int "MAX_STEPS" 100) rfl)
  have m_DIGITS := He.str_ok X G (c.fact 35 (f := .str "DIGITS" "0123456789") rfl)
  have m_Reader := He.glo_ok X G (c.fact 36 (f := .glo "Reader") rfl)
  have CO_Reader := He.cls_ok (c.fact 37 (f := .cls "Reader") rfl)
  have MK_Reader := He.mkr_ok (c.fact 38 (f := .mkr "Reader") rfl)
  have NA_at := He.noat_ok (c.fact 39 (f := .noat "Reader" "at") rfl)
  have NA_nesting := He.noat_ok (c.fact 40 (f := .noat "Reader" "nesting") rfl)
  have NA_text := He.noat_ok (c.fact 41 (f := .noat "Reader" "text") rfl)
  have ME_Reader_ahead := He.meth_ok (c.fact 42 (f := .meth "Reader" "ahead") rfl)
  have ME_Reader_read_number := He.meth_ok (c.fact 43 (f := .meth "Reader" "read_number") rfl)
  have ME_Reader_expect := He.meth_ok (c.fact 44 (f := .meth "Reader" "expect") rfl)
  have ME_Reader_read_step := He.meth_ok (c.fact 45 (f := .meth "Reader" "read_step") rfl)
  have ME_Reader_read_steps := He.meth_ok (c.fact 46 (f := .meth "Reader" "read_steps") rfl)
  have e := hfa.symm.trans m_law
  cases e
  have b := FunD.bindsA (ps := ["_law_script"]) D_law (fun _ _ _ _ _ _ us hl => match us, hl with | [_], _ => rfl)
  have B_check_tuple : L2.Binds K fd_check_tuple ["step", "nesting", "pos"] [] := FunD.bindsN (ps := ["step", "nesting", "pos"]) D_check_tuple (fun _ _ _ _ _ _ us hl => match us, hl with | [_, _, _], _ => rfl)
  have B_check_steps : L2.Binds K fd_check_steps ["steps", "nesting", "pos"] [] := FunD.bindsN (ps := ["steps", "nesting", "pos"]) D_check_steps (fun _ _ _ _ _ _ us hl => match us, hl with | [_, _, _], _ => rfl)
  have B_check_history : L2.Binds K fd_check_history ["history"] [] := FunD.bindsN (ps := ["history"]) D_check_history (fun _ _ _ _ _ _ us hl => match us, hl with | [_], _ => rfl)
  have B_parse_number : L2.Binds K fd_parse_number ["text"] [] := FunD.bindsN (ps := ["text"]) D_parse_number (fun _ _ _ _ _ _ us hl => match us, hl with | [_], _ => rfl)
  have B_format_step : L2.Binds K fd_format_step ["step"] [] := FunD.bindsN (ps := ["step"]) D_format_step (fun _ _ _ _ _ _ us hl => match us, hl with | [_], _ => rfl)
  have B_format_steps : L2.Binds K fd_format_steps ["steps"] [] := FunD.bindsN (ps := ["steps"]) D_format_steps (fun _ _ _ _ _ _ us hl => match us, hl with | [_], _ => rfl)
  have B_format_history : L2.Binds K fd_format_history ["history"] [] := FunD.bindsN (ps := ["history"]) D_format_history (fun _ _ _ _ _ _ us hl => match us, hl with | [_], _ => rfl)
  have B_parse_history : L2.Binds K fd_parse_history ["text"] [] := FunD.bindsN (ps := ["text"]) D_parse_history (fun _ _ _ _ _ _ us hl => match us, hl with | [_], _ => rfl)
  have B__law_start : L2.Binds K fd__law_start ["_law_script"] [] := FunD.bindsN (ps := ["_law_script"]) D__law_start (fun _ _ _ _ _ _ us hl => match us, hl with | [_], _ => rfl)
  have B__law_take : L2.Binds K fd__law_take ["_law_draw", "_law_many"] [] := FunD.bindsN (ps := ["_law_draw", "_law_many"]) D__law_take (fun _ _ _ _ _ _ us hl => match us, hl with | [_, _], _ => rfl)
  have B__law_of : L2.Binds K fd__law_of ["_law_draw", "_law_some"] [] := FunD.bindsN (ps := ["_law_draw", "_law_some"]) D__law_of (fun _ _ _ _ _ _ us hl => match us, hl with | [_, _], _ => rfl)
  have B__law_same : L2.Binds K fd__law_same ["_law_found", "_law_due"] [] := FunD.bindsN (ps := ["_law_found", "_law_due"]) D__law_same (fun _ _ _ _ _ _ us hl => match us, hl with | [_, _], _ => rfl)
  have B__law_step : L2.Binds K fd__law_step ["_law_draw", "_law_size", "_law_deep"] [] := FunD.bindsN (ps := ["_law_draw", "_law_size", "_law_deep"]) D__law_step (fun _ _ _ _ _ _ us hl => match us, hl with | [_, _, _], _ => rfl)
  have B__law_rounds : L2.Binds K fd__law_rounds ["_law_draw", "_law_size", "_law_most", "_law_deep"] [] := FunD.bindsN (ps := ["_law_draw", "_law_size", "_law_most", "_law_deep"]) D__law_rounds (fun _ _ _ _ _ _ us hl => match us, hl with | [_, _, _, _], _ => rfl)
  have B__law_written : L2.Binds K fd__law_written ["_law_steps"] [] := FunD.bindsN (ps := ["_law_steps"]) D__law_written (fun _ _ _ _ _ _ us hl => match us, hl with | [_], _ => rfl)
  have B__law_plain : L2.Binds K fd__law_plain ["_law_steps"] [] := FunD.bindsN (ps := ["_law_steps"]) D__law_plain (fun _ _ _ _ _ _ us hl => match us, hl with | [_], _ => rfl)
  have B__law_text : L2.Binds K fd__law_text ["_law_steps"] [] := FunD.bindsN (ps := ["_law_steps"]) D__law_text (fun _ _ _ _ _ _ us hl => match us, hl with | [_], _ => rfl)
  have B_law : L2.Binds K fd_law ["_law_script"] [] := FunD.bindsN (ps := ["_law_script"]) D_law (fun _ _ _ _ _ _ us hl => match us, hl with | [_], _ => rfl)
  have B_Reader___init__ : L2.Binds K fd_Reader___init__ ["self", "text"] [] := FunD.bindsN (ps := ["self", "text"]) D_Reader___init__ (fun _ _ _ _ _ _ us hl => match us, hl with | [_, _], _ => rfl)
  have B_Reader_ahead : L2.Binds K fd_Reader_ahead ["self"] [] := FunD.bindsN (ps := ["self"]) D_Reader_ahead (fun _ _ _ _ _ _ us hl => match us, hl with | [_], _ => rfl)
  have B_Reader_read_number : L2.Binds K fd_Reader_read_number ["self"] [] := FunD.bindsN (ps := ["self"]) D_Reader_read_number (fun _ _ _ _ _ _ us hl => match us, hl with | [_], _ => rfl)
  have B_Reader_expect : L2.Binds K fd_Reader_expect ["self", "sign"] [] := FunD.bindsN (ps := ["self", "sign"]) D_Reader_expect (fun _ _ _ _ _ _ us hl => match us, hl with | [_, _], _ => rfl)
  have B_Reader_read_step : L2.Binds K fd_Reader_read_step ["self"] [] := FunD.bindsN (ps := ["self"]) D_Reader_read_step (fun _ _ _ _ _ _ us hl => match us, hl with | [_], _ => rfl)
  have B_Reader_read_steps : L2.Binds K fd_Reader_read_steps ["self"] [] := FunD.bindsN (ps := ["self"]) D_Reader_read_steps (fun _ _ _ _ _ _ us hl => match us, hl with | [_], _ => rfl)
  have B_BadStep : L2.Binds K fd_BadStep ["self", "pos"] [] := FunD.bindsN (ps := ["self", "pos"]) D_BadStep (fun _ _ _ _ _ _ us hl => match us, hl with | [_, _], _ => rfl)
  have B_ParseError : L2.Binds K fd_ParseError ["self", "pos"] [] := FunD.bindsN (ps := ["self", "pos"]) D_ParseError (fun _ _ _ _ _ _ us hl => match us, hl with | [_, _], _ => rfl)
  have B_TooLong : L2.Binds K fd_TooLong ["self", "limit"] [] := FunD.bindsN (ps := ["self", "limit"]) D_TooLong (fun _ _ _ _ _ _ us hl => match us, hl with | [_, _], _ => rfl)
  refine ⟨fd_law, fun s u => b s [u] rfl, fun base _ _ hT => ?_⟩
  have XC_BadStep : Xc P w K mg base "BadStep" "pos" := xc_of e_BadStep m_BadStep D_BadStep sc_BadStep rfl rfl rfl B_BadStep
  have XC_ParseError : Xc P w K mg base "ParseError" "pos" := xc_of e_ParseError m_ParseError D_ParseError sc_ParseError rfl rfl rfl B_ParseError
  have XC_TooLong : Xc P w K mg base "TooLong" "limit" := xc_of e_TooLong m_TooLong D_TooLong sc_TooLong rfl rfl rfl B_TooLong
  have O_check_tuple : FnOk P w K mg base (L2N.CX P w) 3 _ fd_check_tuple ["step", "nesting", "pos"] (lift K mg spCTgR) := fnOk_of (k := 2) D_check_tuple sc_check_tuple (fun ds cs Q PX h => by rcases h with ⟨_, _, _, e, _⟩ | ⟨_, _, e, _⟩ <;> rw [e] <;> rfl) (fun cdv A outer s H E C => js_check_tuple n_int n_isinstance n_len m_COUNT_LIMIT m_MAX_NESTING XC_BadStep (by decide) C) ok_ctgR
  have F_check_tuple := fn_mkB D_check_tuple m_check_tuple O_check_tuple B_check_tuple
  have S_check_steps : ∀ i : Nat, i ≤ 5 → Fn P w K mg base "check_steps" (i + 3) 3 (spCSgR i) := by
    intro i
    induction i with
    | zero => exact fun _ => Fn.mono (fn_mkB (ps := ["steps", "nesting", "pos"]) D_check_steps m_check_steps (sp := spCSgR 0) fnOk_false B_check_steps) (Nat.zero_le _)
    | succ i ih => exact fun hi => Fn.mono (fn_mkB D_check_steps m_check_steps (fnOk_of (k := i + 3) D_check_steps sc_check_steps (fun ds cs Q PX h => by rcases h with ⟨_, _, _, _, e, _⟩ | ⟨_, e, _⟩ <;> rw [e] <;> rfl) (fun cdv A outer s H E C => js_check_steps n_int n_isinstance m_MAX_STEPS (ih (by omega)) (Nat.le_refl _) F_check_tuple (by omega) XC_TooLong (by omega) C) (ok_csgR i)) B_check_steps) (by omega)
  have F_check_steps := S_check_steps 5 (Nat.le_refl _)
  have O_check_history : FnOk P w K mg base (L2N.CX P w) 9 _ fd_check_history ["history"] (lift K mg spCHgR) := fnOk_of (k := 8) D_check_history sc_check_history (fun ds cs Q PX h => by rcases h with ⟨_, _, e, _⟩ | ⟨_, e, _⟩ <;> rw [e] <;> rfl) (fun cdv A outer s H E C => js_check_history F_check_steps (by decide) C) ok_chHR
  have F_check_history := fn_mkB D_check_history m_check_history O_check_history B_check_history
  have O_parse_number : FnOk P w K mg base (L2N.CX P w) 1 _ fd_parse_number ["text"] (lift K mg spPNm) := fnOk_of (k := 0) D_parse_number sc_parse_number (fun ds cs Q PX h => by obtain ⟨_, e, _⟩ := h; rw [e]; rfl) (fun cdv A outer s H E C => js_parse_number n_all n_int n_len m_MAX_DIGITS m_DIGITS C) ok_pnm
  have F_parse_number := fn_mkB D_parse_number m_parse_number O_parse_number B_parse_number
  have S_format_steps : ∀ i : Nat, i ≤ 10 → Fn P w K mg base "format_step" (i + 0) 1 (spFSt i) ∧ Fn P w K mg base "format_steps" (i + 0) 1 (spFSs i) := by
    intro i
    induction i with
    | zero => exact fun _ => ⟨Fn.mono (show Fn P w K mg base "format_step" (0) 1 (spFSt 0) from fn_mkB D_format_step m_format_step (fnOk_imp fnOk_false z_spFSt) B_format_step) (Nat.zero_le _), Fn.mono (show Fn P w K mg base "format_steps" (0) 1 (spFSs 0) from fn_mkB D_format_steps m_format_steps (fnOk_imp fnOk_false z_spFSs) B_format_steps) (Nat.zero_le _)⟩
    | succ i ih => exact fun hi => ⟨Fn.mono (show Fn P w K mg base "format_step" (i + 0 + 1) 1 (spFSt (i + 1)) from fn_mkB D_format_step m_format_step (fnOk_of (k := i + 0) D_format_step sc_format_step (fun ds cs Q PX h => by obtain ⟨_, e, _⟩ := h; rw [e]; rfl) (fun cdv A outer s H E C => js_format_step n_int n_isinstance n_str (ih (by omega)).2 (Nat.le_refl _) C) (ok_fst i)) B_format_step) (by omega), Fn.mono (show Fn P w K mg base "format_steps" (i + 0 + 1) 1 (spFSs (i + 1)) from fn_mkB D_format_steps m_format_steps (fnOk_of (k := i + 0) D_format_steps sc_format_steps (fun ds cs Q PX h => by obtain ⟨_, _, e, _⟩ := h; rw [e]; rfl) (fun cdv A outer s H E C => js_format_steps (ih (by omega)).1 (Nat.le_refl _) C) (ok_fss i)) B_format_steps) (by omega)⟩
  have F_format_step := (S_format_steps 10 (Nat.le_refl _)).1
  have F_format_steps := (S_format_steps 10 (Nat.le_refl _)).2
  have O_format_history : FnOk P w K mg base (L2N.CX P w) 11 _ fd_format_history ["history"] (lift K mg spFHy) := fnOk_of (k := 10) D_format_history sc_format_history (fun ds cs Q PX h => by obtain ⟨_, _, e, _⟩ := h; rw [e]; rfl) (fun cdv A outer s H E C => js_format_history F_check_history (by decide) F_format_steps (by decide) C) ok_fhy
  have F_format_history := fn_mkB D_format_history m_format_history O_format_history B_format_history
  have K_format_history_0_history := fnk_mk (n := 0) (ks := ["history"]) (ix := [0]) D_format_history m_format_history O_format_history (fun _ _ _ _ _ _ us ws h1 h2 => match us, h1, ws, h2 with | [], _, [_], _ => rfl)
  have O_Reader___init__ : FnOk P w K mg base (L2N.CX P w) 1 _ fd_Reader___init__ ["self", "text"] (lift K mg (spRIni (He.ga K "Reader"))) := fnOk_of (k := 0) D_Reader___init__ sc_Reader___init__ (fun ds cs Q PX h => by obtain ⟨_, _, e, _⟩ := h; rw [e]; rfl) (fun cdv A outer s H E C => js_Reader___init__ CO_Reader NA_at NA_nesting NA_text C) (ok_rini _)
  have F_Reader___init__ : FnI P w K mg base "Reader" (He.ga K "Reader") 1 2 (spRIni (He.ga K "Reader")) := ⟨_, _, _, rfl, m_Reader, MK_Reader, O_Reader___init__, B_Reader___init__⟩
  have O_Reader_ahead : FnOk P w K mg base (L2N.CX P w) 1 _ fd_Reader_ahead ["self"] (lift K mg (spRAh (He.ga K "Reader"))) := fnOk_of (k := 0) D_Reader_ahead sc_Reader_ahead (fun ds cs Q PX h => by obtain ⟨_, _, _, _, e, _⟩ := h; rw [e]; rfl) (fun cdv A outer s H E C => js_Reader_ahead CO_Reader NA_at NA_text C) (ok_rah)
  have F_Reader_ahead : FnM P w K mg base (He.ga K "Reader") "ahead" 1 1 (spRAh (He.ga K "Reader")) := ⟨_, _, _, rfl, CO_Reader, ME_Reader_ahead, O_Reader_ahead, B_Reader_ahead⟩
  have O_Reader_expect : FnOk P w K mg base (L2N.CX P w) 3 _ fd_Reader_expect ["self", "sign"] (lift K mg (spREx (He.ga K "Reader"))) := fnOk_of (k := 2) D_Reader_expect sc_Reader_expect (fun ds cs Q PX h => by obtain ⟨_, _, _, _, _, e, _⟩ := h; rw [e]; rfl) (fun cdv A outer s H E C => js_Reader_expect CO_Reader NA_at F_Reader_ahead (by decide) XC_ParseError (by decide) C) (ok_rex)
  have F_Reader_expect : FnM P w K mg base (He.ga K "Reader") "expect" 3 2 (spREx (He.ga K "Reader")) := ⟨_, _, _, rfl, CO_Reader, ME_Reader_expect, O_Reader_expect, B_Reader_expect⟩
  have O_Reader_read_number : FnOk P w K mg base (L2N.CX P w) 3 _ fd_Reader_read_number ["self"] (lift K mg (spRNm (He.ga K "Reader"))) := fnOk_of (k := 2) D_Reader_read_number sc_Reader_read_number (fun ds cs Q PX h => by obtain ⟨_, _, _, _, e, _⟩ := h; rw [e]; rfl) (fun cdv A outer s H E C => js_Reader_read_number CO_Reader NA_at NA_text F_Reader_ahead (by decide) F_parse_number (by decide) XC_ParseError (by decide) C) (ok_rnm)
  have F_Reader_read_number : FnM P w K mg base (He.ga K "Reader") "read_number" 3 1 (spRNm (He.ga K "Reader")) := ⟨_, _, _, rfl, CO_Reader, ME_Reader_read_number, O_Reader_read_number, B_Reader_read_number⟩
  have S_Reader_read_steps : ∀ i : Nat, i ≤ 10 → FnM P w K mg base (He.ga K "Reader") "read_step" (i + 3) 1 ((spRSt (He.ga K "Reader")) i) ∧ FnM P w K mg base (He.ga K "Reader") "read_steps" (i + 3) 1 ((spRSs (He.ga K "Reader")) i) := by
    intro i
    induction i with
    | zero => exact fun _ => ⟨FnM.mono (show FnM P w K mg base (He.ga K "Reader") "read_step" (0) 1 ((spRSt (He.ga K "Reader")) 0) from ⟨_, _, _, rfl, CO_Reader, ME_Reader_read_step, fnOk_imp fnOk_false z_spRSt, B_Reader_read_step⟩) (Nat.zero_le _), FnM.mono (show FnM P w K mg base (He.ga K "Reader") "read_steps" (0) 1 ((spRSs (He.ga K "Reader")) 0) from ⟨_, _, _, rfl, CO_Reader, ME_Reader_read_steps, fnOk_imp fnOk_false z_spRSs, B_Reader_read_steps⟩) (Nat.zero_le _)⟩
    | succ i ih => exact fun hi => ⟨FnM.mono (show FnM P w K mg base (He.ga K "Reader") "read_step" (i + 3 + 1) 1 ((spRSt (He.ga K "Reader")) (i + 1)) from ⟨_, _, _, rfl, CO_Reader, ME_Reader_read_step, fnOk_of (k := i + 3) D_Reader_read_step sc_Reader_read_step (fun ds cs Q PX h => by obtain ⟨_, _, _, _, e, _⟩ := h; rw [e]; rfl) (fun cdv A outer s H E C => js_Reader_read_step n_tuple m_MAX_NESTING CO_Reader NA_nesting F_Reader_ahead (by omega) F_Reader_expect (by omega) F_Reader_read_number (by omega) (ih (by omega)).2 (Nat.le_refl _) XC_ParseError (by omega) C) (ok_rst _ i), B_Reader_read_step⟩) (by omega), FnM.mono (show FnM P w K mg base (He.ga K "Reader") "read_steps" (i + 3 + 1) 1 ((spRSs (He.ga K "Reader")) (i + 1)) from ⟨_, _, _, rfl, CO_Reader, ME_Reader_read_steps, fnOk_of (k := i + 3) D_Reader_read_steps sc_Reader_read_steps (fun ds cs Q PX h => by obtain ⟨_, _, _, _, e, _⟩ := h; rw [e]; rfl) (fun cdv A outer s H E C => js_Reader_read_steps CO_Reader F_Reader_ahead (by omega) F_Reader_expect (by omega) (ih (by omega)).1 (Nat.le_refl _) C) (ok_rss _ i), B_Reader_read_steps⟩) (by omega)⟩
  have F_Reader_read_step := (S_Reader_read_steps 10 (Nat.le_refl _)).1
  have F_Reader_read_steps__M := (S_Reader_read_steps 10 (Nat.le_refl _)).2
  have O_parse_history__M : FnOk P w K mg base (L2N.CX P w) 14 _ fd_parse_history ["text"] (lift K mg spPHM) := fnOk_of (k := 13) D_parse_history sc_parse_history (fun ds cs Q PX h => by obtain ⟨_, e, _⟩ := h; rw [e]; rfl) (fun cdv A outer s H E C => js_parse_history n_len CO_Reader NA_at F_Reader___init__ (by decide) F_Reader_read_steps__M (by decide) F_check_history (by decide) XC_ParseError (by decide) C) (ok_phm _)
  have F_parse_history__M := fn_mkB D_parse_history m_parse_history O_parse_history__M B_parse_history
  have O_parse_history : FnOk P w K mg base (L2N.CX P w) 14 _ fd_parse_history ["text"] (lift K mg spPH) := fnOk_imp (fnOk_frz O_parse_history__M) conv_spPH
  have F_parse_history := fn_mkB D_parse_history m_parse_history O_parse_history B_parse_history
  have K_parse_history_0_text := fnk_mk (n := 0) (ks := ["text"]) (ix := [0]) D_parse_history m_parse_history O_parse_history (fun _ _ _ _ _ _ us ws h1 h2 => match us, h1, ws, h2 with | [], _, [_], _ => rfl)
  have O__law_start : FnOk P w K mg base (L2N.CX P w) 1 _ fd__law_start ["_law_script"] (lift K mg spStart) := seal_start (fnOk_of (k := 0) D__law_start sc__law_start (fun ds cs Q PX ⟨e, _⟩ => by rw [e]; rfl) (fun cdv A outer s H E C => js__law_start n_len n_list C) ok_start)
  have F__law_start := fn_mkB D__law_start m__law_start O__law_start B__law_start
  have O__law_take : FnOk P w K mg base (L2N.CX P w) 1 _ fd__law_take ["_law_draw", "_law_many"] (lift K mg spTake) := seal_take (fnOk_of (k := 0) D__law_take sc__law_take (fun ds cs Q PX ⟨_, _, _, _, _, _, e, _⟩ => by rw [e]; rfl) (fun cdv A outer s H E C => js__law_take n_len C) ok_take)
  have F__law_take := fn_mkB D__law_take m__law_take O__law_take B__law_take
  have O__law_of : FnOk P w K mg base (L2N.CX P w) 2 _ fd__law_of ["_law_draw", "_law_some"] (lift K mg spOf) := fnOk_of (k := 1) D__law_of sc__law_of (fun ds cs Q PX ⟨_, _, _, e, _⟩ => by rw [e]; rfl) (fun cdv A outer s H E C => js__law_of n_len F__law_take (by decide) C) ok_of
  have F__law_of := fn_mkB D__law_of m__law_of O__law_of B__law_of
  have S_same : ∀ i : Nat, i ≤ 64 → Fn P w K mg base "_law_same" i 2 (spSR i) := by
    intro i
    induction i with
    | zero => exact fun _ => fn_mkB (ps := ["_law_found", "_law_due"]) D__law_same m__law_same (sp := spSR 0) fnOk_zeroR B__law_same
    | succ i ih => exact fun hi => fn_mkB D__law_same m__law_same (fnOk_of (k := i) D__law_same sc__law_same (fun ds cs Q PX ⟨_, _, _, e, _⟩ => by rw [e]; rfl) (fun cdv A outer s H E C => js__law_same n_all n_bool n_int n_isinstance n_len n_list n_str n_tuple n_zip (ih (by omega)) (Nat.le_refl _) C) (ok_sameR i (by omega))) B__law_same
  have F__law_same := S_same 20 (by decide)
  have S__law_step : ∀ i : Nat, i ≤ 5 → Fn P w K mg base "_law_step" (i + 2) 3 (spLS i) := by
    intro i
    induction i with
    | zero => exact fun _ => Fn.mono (fn_mkB (ps := ["_law_draw", "_law_size", "_law_deep"]) D__law_step m__law_step (sp := spLS 0) fnOk_false B__law_step) (Nat.zero_le _)
    | succ i ih => exact fun hi => Fn.mono (fn_mkB D__law_step m__law_step (fnOk_of (k := i + 2) D__law_step sc__law_step (fun ds cs Q PX h => by obtain ⟨_, _, _, e, _⟩ := h; rw [e]; rfl) (fun cdv A outer s H E C => js__law_step n_range n_tuple F__law_of (by omega) (ih (by omega)) (Nat.le_refl _) F__law_take (by omega) C) (ok_lstep i)) B__law_step) (by omega)
  have F__law_step := S__law_step 5 (Nat.le_refl _)
  have O__law_rounds : FnOk P w K mg base (L2N.CX P w) 8 _ fd__law_rounds ["_law_draw", "_law_size", "_law_most", "_law_deep"] (lift K mg spLR) := fnOk_of (k := 7) D__law_rounds sc__law_rounds (fun ds cs Q PX ⟨_, _, _, _, e, _⟩ => by rw [e]; rfl) (fun cdv A outer s H E C => js__law_rounds n_range F__law_step (by decide) F__law_take (by decide) C) ok_lrounds
  have F__law_rounds := fn_mkB D__law_rounds m__law_rounds O__law_rounds B__law_rounds
  have S__law_written : ∀ i : Nat, i ≤ 5 → Fn P w K mg base "_law_written" (i + 0) 1 (spWr i) := by
    intro i
    induction i with
    | zero => exact fun _ => Fn.mono (fn_mkB (ps := ["_law_steps"]) D__law_written m__law_written (sp := spWr 0) fnOk_false B__law_written) (Nat.zero_le _)
    | succ i ih => exact fun hi => Fn.mono (fn_mkB D__law_written m__law_written (fnOk_of (k := i + 0) D__law_written sc__law_written (fun ds cs Q PX h => by obtain ⟨_, _, e, _⟩ := h; rw [e]; rfl) (fun cdv A outer s H E C => js__law_written n_int n_isinstance (ih (by omega)) (Nat.le_refl _) C) (ok_lwr i)) B__law_written) (by omega)
  have F__law_written := S__law_written 5 (Nat.le_refl _)
  have S__law_plain : ∀ i : Nat, i ≤ 5 → Fn P w K mg base "_law_plain" (i + 0) 1 (spPl i) := by
    intro i
    induction i with
    | zero => exact fun _ => Fn.mono (fn_mkB (ps := ["_law_steps"]) D__law_plain m__law_plain (sp := spPl 0) fnOk_false B__law_plain) (Nat.zero_le _)
    | succ i ih => exact fun hi => Fn.mono (fn_mkB D__law_plain m__law_plain (fnOk_of (k := i + 0) D__law_plain sc__law_plain (fun ds cs Q PX h => by obtain ⟨_, _, e, _⟩ := h; rw [e]; rfl) (fun cdv A outer s H E C => js__law_plain n_int n_isinstance n_tuple (ih (by omega)) (Nat.le_refl _) C) (ok_pl i)) B__law_plain) (by omega)
  have F__law_plain := S__law_plain 5 (Nat.le_refl _)
  have S__law_text : ∀ i : Nat, i ≤ 5 → Fn P w K mg base "_law_text" (i + 0) 1 (spLT i) := by
    intro i
    induction i with
    | zero => exact fun _ => Fn.mono (fn_mkB (ps := ["_law_steps"]) D__law_text m__law_text (sp := spLT 0) fnOk_false B__law_text) (Nat.zero_le _)
    | succ i ih => exact fun hi => Fn.mono (fn_mkB D__law_text m__law_text (fnOk_ofL (k := i + 0) D__law_text sc__law_text (fun ds cs Q PX h => by obtain ⟨_, _, e, _⟩ := h; rw [e]; rfl) (fun cdv A outer s H E C => js__law_text n_int n_isinstance n_str (ih (by omega)) (Nat.le_refl _) C) (ok_lt i)) B__law_text) (by omega)
  have F__law_text := S__law_text 5 (Nat.le_refl _)
  exact fnOk_of (k := 20) D_law sc_law (fun ds cs Q PX ⟨e, _⟩ => by rw [e]; rfl) (fun cdv A outer s H E C => js_law n_len n_range n_tuple F__law_of (by decide) F__law_plain (by decide) F__law_rounds (by decide) F__law_same (by decide) F__law_start (by decide) F__law_take (by decide) F__law_text (by decide) F__law_written (by decide) F_format_history (by decide) F_parse_history (by decide) F_parse_history__M (by decide) K_format_history_0_history K_parse_history_0_text C) ok_law
end K50
open PySem PySem.W PySem.Calls PyProof.Rows
theorem PySem.Challenge.cw_findforests_k50_texts_of_histories_holds : PySem.Challenge.rw_findforests_k50_texts_of_histories.Holds := by
  w_on; o_law
  refine HandSHeadRun.head_any (r := OpenLaw.row PySem.Challenge.rw_findforests_k50_texts_of_histories) (q := view (OpenLaw.row PySem.Challenge.rw_findforests_k50_texts_of_histories).prog [31]) (H := K50.hk) (ob := K50.ob) (M := 6000) (loose := ("__name__" :: "ForestError" :: "BadStep" :: "TooLong" :: "ParseError" :: "MAX_STEPS" :: "MAX_NESTING" :: "COUNT_LIMIT" :: "check_tuple" :: "check_steps" :: "check_history" :: "DIGITS" :: "MAX_DIGITS" :: "parse_number" :: "format_step" :: "format_steps" :: "format_history" :: "Reader" :: "parse_history" :: "_law_start" :: "_law_take" :: "_law_of" :: "_law_same" :: "_law_step" :: "_law_rounds" :: "_law_written" :: "_law_plain" :: "_law_text" :: [])) (d := HandSHeadRun.topDef (OpenLaw.row PySem.Challenge.rw_findforests_k50_texts_of_histories).prog 31) (kwd := []) K50.ob_eq
    (by kernel_rfl) (fun s => by kernel_rfl) K50.run (by kernel_rfl) (by kernel_rfl) (by kernel_rfl) (by rfl) (by first | assumption | decide +kernel) (by decide +kernel) ⟨rfl, rfl, rfl, rfl, rfl, by decide +kernel⟩ ?hw ?hc
  case hw => w_witness2
  case hc =>
    refine G.walkG (l := PySem.Challenge.rw_findforests_k50_texts_of_histories) (k := 21) (x := "_law_script") (n := 4) (fa := K50.fa) (fn := K50.fn) (ts := K50.ts) (tf := K50.tf) (ex := K50.ex) rfl (by kernel_rfl) ⟨rfl, by decide, by decide⟩ (fun K h => (Bool.and_eq_true_iff.mp h).1) ?F
    intro w mg fa h K KX c Y hmg0
    have hmg : mg ("law" : PySem.Str) = some (.ref fa) := by
      have e : (HandSHeadRun.topDef (OpenLaw.row PySem.Challenge.rw_findforests_k50_texts_of_histories).prog 31).name = ("law" : PySem.Str) := by kernel_rfl
      rw [← e]
      exact hmg0
    exact K50.facts (P := (PySem.Challenge.rw_findforests_k50_texts_of_histories).prog) (w := w) KX Y hmg c
