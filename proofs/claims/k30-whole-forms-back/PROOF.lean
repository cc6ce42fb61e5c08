import PyProof.Rows.All
import Wide.All
import OpenK.AllK
import Wide.FinOn
import KE.KStateDown
import HandS.ForMost
import HandS.Codes
import HandS.Walk
import HandS.IsInst
import HandS.TupAny
import HandS.Wide
import HandS.Defaults
import HandS.More
import HandS.WordsExc
import HandS.Head0
import HandS.Head1
import HandS.Head2
import HandS.HeadEnd
import HandS.HeadHook1
import HandS.HeadHook2
import HandS.Lambda
import HandS.HeadHook4
import Wide.Once
import HandS.HeadHook3
import KE.KNestM
import HandS.Steps
import HandS.Evl
import HandS.ForExc
import HandS.CallSlots
import HandS.Ends
import HandS.ExcOwn
import HandS.ExcIs
import HandS.ExcValue
import HandS.TryOnly
import KE.KExcIs
import PyProof.ExcBaseAll.ValueError
import HandS.RaiseMore
import HandS.Style
import HandS.SortInts
import HandS.Dict
import PyProof.ReprLen
import PyProof.StrLawsRepr
import HandS.OwnEq
import HandS.Deep
import PyProof.StrBlock2
import HandS.Flow
import HandS.Zip
import KE.GoesEnum
import KE.DataMinMax
import KE.SortData
import HandS.ListItems
import HandS.SortKw
import HandS.SetKeys
import HandS.Rev
import HandS.RevRange
import HandS.FStr
import HandS.StrMore
import KE.GoesMore
import KE.GoesZip
import KE.SortKeyHeap
import KE.KLam
import PyProof.TupleOps
import PyProof.DictMoreH
import PySem.Challenge.RW_callcoin_k30_whole_forms_back
set_option Elab.async false
set_option linter.all false
set_option maxRecDepth 100000
set_option maxHeartbeats 4000000
namespace Dl
open PySem PySem.Spec PyProof.Rows L2
/-! what the head asks of the module's top -/
/-! ### the tables of code objects that K's functions have -/
def codeTab (p : Addr × Obj) : Option (Addr × Addr) := match p.2 with
  | ⟨.type _, _, .fields vs, _⟩ => (match (vs[11]? : Option Value) with
    | some (.ref P) => some (p.1, P)
    | _ => none)
  | _ => none
def codeNm (K : PySem.W.Frag) (c : Addr) : Str := match K.lookup c with
  | some ⟨_, _, .fields vs, _⟩ => (match (vs[1]? : Option Value) with
    | some (.str q _) => q
    | _ => Str.empty)
  | _ => Str.empty
/-- a code object, its table -/
def tabC (K : PySem.W.Frag) : List (Addr × Addr) := (K.filterMap codeTab).filter fun p => PySem.W.codeHdIn K p.1 p.2 && (K.filterMap codeTab).all fun q => q.2 != p.2 || q.1 == p.1
/-- a table, the name that its lambdas bear -/
def tabList (K : PySem.W.Frag) : List (Addr × Str) := (tabC K).map fun p => (p.2, codeNm K p.1 ++ (".<locals>." : Str) ++ ("<lambda>" : Str))
def coinErrs : List Str := ["CoinError", "NoName", "NoMoney", "NoAmount", "NoText", "NoBridge", "NoDay", "NoWorth", "NoBook", "NoTerm", "NoWeight", "NoMany", "NoKinds", "Lacking", "NoRow", "NoStock", "NoDebt", "NoPeople", "NoDeed", "Shut", "TooMany"]
def terms : List Str := ["Term", "Level", "Called", "Mixed", "Least", "Greatest"]
def isb (c C : Str) : Bool := c == C || (C == "CoinError" && coinErrs.contains c) || (C == "Term" && terms.contains c) || (C == "Mixed" && (c == "Least" || c == "Greatest"))
/-! ### facts of the top: one more Bool -/
abbrev AlB := He.AlD × Bool
def obsB (fa : List He.Fa) (fn : List He.DefD) (ex : PySem.W.Frag → Bool) (K : PySem.W.Frag) : AlB := (He.obsD fa fn K, ex K)
/-- the tables of K's code objects are empty -/
def tabsBX (g : Addr → Option Obj) (K : PySem.W.Frag) : Bool := (tabC K).all fun p => match g p.2 with
  | some o => He.emptyTab o
  | none => false
theorem tabsBX_ok {g : Addr → Option Obj} {K : PySem.W.Frag} (h : tabsBX g K = true) : ∀ p ∈ tabC K, ∃ o, g p.2 = some o ∧ He.emptyTab o = true := fun p hp => by
  have h1 := List.all_eq_true.mp h p hp
  split at h1
  · rename_i o e; exact ⟨o, e, h1⟩
  · cases h1
structure SaysB (fa : List He.Fa) (fn : List He.DefD) (ex : PySem.W.Frag → Bool) (h : Heap) (K : PySem.W.Frag) : Prop where
  d : He.SaysD fa fn K
  e : ex K = true
  t : ∀ p ∈ tabC K, h.get? p.2 = some (PySem.W.tabObj #[])
  n : ∀ p ∈ tabC K, K.lookup p.2 = none
def insB (K : PySem.W.Frag) (D : Addr) : Bool := He.eqO (PySem.W.findIn K (.ref D) "__class__") (some (some (.builtin "object.__class__"))) && (He.eqO (PySem.W.specialIn K (.builtin "object.__class__") "__get__") (some (some (.builtin "getset_descriptor.__get__"))) && (decide (PySem.W.takesIn K (.builtin "object.__class__") = some true) && decide (PySem.W.mroIn K D (.type "object") = some true)))
def excB (K : PySem.W.Frag) (D : Addr) : Bool := insB K D && (He.eqO (PySem.W.findIn K (.ref D) "__getattribute__") (some (some (.builtin "BaseException.__getattribute__"))) && (He.eqO (PySem.W.findIn K (.ref D) "__getattr__") (some none) && (decide (PySem.W.subIn K (.ref D) (.type "BaseException") = some true) && PySem.W.hasDictIn K D)))
def seven : List String := ["NoneType", "bool", "int", "str", "tuple", "list", "dict"]
def cssB (EX CL : List Str) (K : PySem.W.Frag) : Bool := (EX.all fun c => excB K (He.ga K c)) && ((CL.all fun c => (He.Fa.cls c).ok K && insB K (He.ga K c)) && (((EX ++ CL).all fun c => (EX ++ CL).all fun C => decide (PySem.W.kitOne K (.ref (He.ga K c)) (.ref (He.ga K C)) = some (isb c C))) && ((EX ++ CL).all fun C => seven.all fun t => decide (PySem.W.kitOne K (.type t) (.ref (He.ga K C)) = some false))))
/-- a statement of a class -/
def inCls (st : Stmt) (j : Nat) : Stmt := match st with
  | .ClassDef _ _ _ b _ _ _ _ _ _ _ => b.getD j (.Pass ⟨0, 0, 0, 0⟩)
  | _ => .Pass ⟨0, 0, 0, 0⟩
/-! ### what a lambda's maker asks of K, as a Bool -/
def modB (K : PySem.W.Frag) : Bool := match K.lookup (He.ga K "__builtins__") with
  | some ⟨.type c, some d, .plain, _⟩ => c == "module" && (d == builtinsNs && (He.ga K "__builtins__" != builtinsNs && (He.ga K "__builtins__" != mainGlobals && (tabC K).all fun p => p.2 != He.ga K "__builtins__" && p.2 != mainGlobals)))
  | _ => false
def nmIs (q : Str) (o : Obj) : Bool := match o with
  | ⟨_, _, .fields vs, _⟩ => (match vs.toList with
    | _ :: .str n _ :: _ => n == q
    | _ => false)
  | _ => false
def lamQ (K : PySem.W.Frag) (q : Str) : Bool := K.all fun p => !(nmIs q p.2) || (tabC K).any fun r => r.1 == p.1 && codeNm K p.1 == q
def lamB (qs : List Str) (K : PySem.W.Frag) : Bool := modB K && qs.all fun q => lamQ K q
/-! ### the run's equation out of parts: each part is run by itself, for the kernel's memory -/
/-! ### an own exception class whose __init__ sets fields -/
end Dl
namespace Dl
open PySem PySem.Spec PyProof.Rows L2
/-! ### the top's facts, dicts with text keys among them -/
abbrev AlK := AlB × List (Option (List (Option (Str × Int))))
def keysOb (ts : List (Str × List Str)) (K : PySem.W.Frag) : List (Option (List (Option (Str × Int)))) := ts.map fun t => He.dicW K (He.ga K t.1)
def keysVal (ts : List (Str × List Str)) (w : World) : List (Option (List (Option (Str × Int)))) := ts.map fun t => some (He.keysIn w.params t.2)
structure SaysK (fa : List He.Fa) (fn : List He.DefD) (ex : PySem.W.Frag → Bool) (ts : List (Str × List Str)) (w : World) (h : Heap) (K : PySem.W.Frag) : Prop where
  b : SaysB fa fn ex h K
  k : keysOb ts K = keysVal ts w
theorem SaysK.dic {fa : List He.Fa} {fn : List He.DefD} {ex : PySem.W.Frag → Bool} {ts : List (Str × List Str)} {w : World} {h : Heap} {K : PySem.W.Frag} (c : SaysK fa fn ex ts w h K) (i : Nat) {x : Str} {ks : List Str} (e : ts[i]? = some (x, ks)) : He.dicW K (He.ga K x) = some (He.keysIn w.params ks) := by
  have h1 := congrArg (fun l => l[i]?) c.k
  unfold keysOb keysVal at h1
  rw [List.getElem?_map, List.getElem?_map, e] at h1
  exact Option.some.inj h1
/-! ### what such a dict's values are, ahead of the layer's data -/
inductive CV where
  | fn (n : Str)
  | txs (l : List Str)
theorem by2 {α : Type} {F : World → OsState → Option α} {v : World → Option α} (hf : ∀ (w : World) (os : OsState), F (w.withFollow "special-get-raises" false) os = v (w.withFollow "special-get-raises" false)) (ht : ∀ (w : World) (os : OsState), F (w.withFollow "special-get-raises" true) os = v (w.withFollow "special-get-raises" true)) (w : World) (os : OsState) : F w os = v w := PySem.W.byRow2 "special-get-raises" (P := fun w => ∀ os, F w os = v w) hf ht w os
end Dl
namespace Dl
open PySem PySem.Spec PyProof.Rows L2
/-! ### the top's facts over a written list of addresses: nothing has to be searched for in the run -/
def obsKL (as : List Addr) (fa : List He.Fa) (fn : List He.DefD) (ex : PySem.W.Frag → Bool) (ts : List (Str × List Str)) (g : Addr → Option Obj) : AlK := (obsB fa fn (fun K => ex K && tabsBX g K) (He.frT g as), keysOb ts (He.frT g as))
def hookKL (as : List Addr) (fa : List He.Fa) (fn : List He.DefD) (ex : PySem.W.Frag → Bool) (ts : List (Str × List Str)) : PySem.W.Hook where
  α := AlK
  obs := fun s => obsKL as fa fn ex ts s.heap.get?
  val := fun w => ((He.valD fn, true), keysVal ts w)
  says := fun w h => ∃ K : PySem.W.Frag, K.In h ∧ SaysK fa fn ex ts w h K
  of := fun w s e => by
    obtain e1 : obsB fa fn (fun K => ex K && tabsBX s.heap.get? K) (He.frT s.heap.get? as) = (He.valD fn, true) := congrArg (fun z : AlK => z.1) e
    obtain e2 : keysOb ts (He.frT s.heap.get? as) = keysVal ts w := congrArg (fun z : AlK => z.2) e
    exact ⟨_, He.frT_in, ⟨congrArg (fun z : AlB => z.1) e1, (He.ba (congrArg (fun z : AlB => z.2) e1)).1,
      fun p hp => by
        obtain ⟨o, e1, e2⟩ := tabsBX_ok (He.ba (congrArg (fun z : AlB => z.2) e1)).2 p hp
        rw [e1, He.emptyTab_eq e2],
      fun p hp => by
        obtain ⟨o, e1, e2⟩ := tabsBX_ok (He.ba (congrArg (fun z : AlB => z.2) e1)).2 p hp
        exact He.frT_none e1 e2⟩, e2⟩
  keeps := fun _ _ _ ⟨K, hK, c⟩ k => ⟨K, PySem.W.Frag.In.keeps hK k, ⟨c.b.d, c.b.e, fun p hp => k _ _ (c.b.t p hp), c.b.n⟩, c.k⟩
theorem obsKL_eq {as : List Addr} {fa : List He.Fa} {fn : List He.DefD} {ex : PySem.W.Frag → Bool} {ts : List (Str × List Str)} {g : Addr → Option Obj} {s : Shared} (h : ∀ a, g a = s.heap.get? a) : obsKL as fa fn ex ts g = (hookKL as fa fn ex ts).obs s := by
  obtain rfl : g = s.heap.get? := funext h
  rfl
def kL (as : List Addr) (s : PySem.W.SharedT) : PySem.W.Frag := He.frT (HandSHeadRun.getT s) as
theorem run_ofL {as : List Addr} {x : Option PySem.W.SharedT} {A1 : PySem.W.SharedT → Bool} {β : Type} {A2 : PySem.W.SharedT → β} {a2 : β} {fa : List He.Fa} {fn : List He.DefD} {ex : PySem.W.Frag → Bool} {ts : List (Str × List Str)} {w : World}
    (hA : x.map (fun s => (A1 s, A2 s)) = some (true, a2)) (hF : x.map (fun s => (fa.all fun f => f.ok (kL as s)) && tabsBX (HandSHeadRun.getT s) (kL as s)) = some true)
    (hN : x.map (fun s => ((fn.all fun d => d.ok (kL as s)), fn.map fun d => He.fnW (kL as s) d.at_)) = some (true, fn.map He.DefD.val)) (hE : x.map (fun s => (ex (kL as s), keysOb ts (kL as s))) = some (true, keysVal ts w)) :
    x.map (fun s => (A1 s, A2 s, obsKL as fa fn ex ts (HandSHeadRun.getT s))) = some (true, a2, ((He.valD fn, true), keysVal ts w)) := by
  cases x with
  | none => cases hF
  | some s =>
    have a : (A1 s, A2 s) = (true, a2) := by injection hA
    have f : ((fa.all fun f => f.ok (kL as s)) && tabsBX (HandSHeadRun.getT s) (kL as s)) = true := by injection hF
    have n : ((fn.all fun d => d.ok (kL as s)), fn.map fun d => He.fnW (kL as s) d.at_) = (true, fn.map He.DefD.val) := by injection hN
    have e : (ex (kL as s), keysOb ts (kL as s)) = (true, keysVal ts w) := by injection hE
    have a1 := congrArg (·.1) a
    have a2' := congrArg (·.2) a
    have n1 := congrArg (·.1) n
    have n2 := congrArg (·.2) n
    have e1 := congrArg (·.1) e
    have e2 := congrArg (·.2) e
    simp only at a1 a2' n1 n2 e1 e2
    have f1 := (Bool.and_eq_true_iff.mp f).1
    have f2 := (Bool.and_eq_true_iff.mp f).2
    show some (A1 s, A2 s, ((((fa.all fun f => f.ok (kL as s)) && fn.all fun d => d.ok (kL as s), fn.map fun d => He.fnW (kL as s) d.at_), (ex (kL as s) && tabsBX (HandSHeadRun.getT s) (kL as s))), keysOb ts (kL as s))) = some (true, a2, (((true, fn.map He.DefD.val), true), keysVal ts w))
    rw [a1, a2', f1, f2, n1, n2, e1, e2]
    rfl
end Dl
namespace Pf
open PySem PySem.Spec PyProof.Rows L2 Dl
def top (i : Nat) : Stmt := PySem.Challenge.pw_callcoin_k30_whole_forms_back.main.body.getD i (.Pass ⟨0, 0, 0, 0⟩)
abbrev s__law_mixed : Stmt := top 35
abbrev s__law_next : Stmt := top 36
abbrev s__law_word : Stmt := top 37
abbrev s__law_words : Stmt := top 38
abbrev s__law_calls : Stmt := top 41
abbrev s__law_day : Stmt := top 40
abbrev s__law_level : Stmt := top 39
abbrev s__law_told : Stmt := top 42
abbrev s_is_number : Stmt := top 10
abbrev s_ask_worth : Stmt := top 12
abbrev s_Level___init__ : Stmt := inCls (top 17) 0
abbrev s_is_name : Stmt := top 9
abbrev s_ask_name : Stmt := top 11
abbrev s_Called___init__ : Stmt := inCls (top 18) 0
abbrev s_Level_rules : Stmt := inCls (top 16) 0
abbrev s_Called_rules : Stmt := inCls (top 16) 0
abbrev s_Least_rules : Stmt := inCls (top 19) 1
abbrev s_Greatest_rules : Stmt := inCls (top 19) 1
abbrev s_Level_deep : Stmt := inCls (top 16) 1
abbrev s_Called_deep : Stmt := inCls (top 16) 1
abbrev s_Least_deep : Stmt := inCls (top 19) 2
abbrev s_Greatest_deep : Stmt := inCls (top 19) 2
abbrev s_Least___init__ : Stmt := inCls (top 19) 0
abbrev s_Greatest___init__ : Stmt := inCls (top 19) 0
abbrev s__law_build : Stmt := top 44
abbrev s_rank : Stmt := top 26
abbrev s_ordered : Stmt := top 27
abbrev s_calls_in : Stmt := top 25
abbrev s_sets_of : Stmt := top 28
abbrev s_strength : Stmt := top 29
abbrev s_form : Stmt := top 30
abbrev s__law_form_sound : Stmt := top 49
abbrev s_term_of : Stmt := top 22
abbrev s__law_pair : Stmt := top 47
abbrev s__law_written : Stmt := top 48
abbrev s__law_alike : Stmt := top 43
abbrev s_day_beside : Stmt := top 31
abbrev s_book_of : Stmt := top 33
abbrev s_parted : Stmt := top 32
abbrev s__law_call_worth : Stmt := top 45
abbrev s__law_worth : Stmt := top 46
abbrev s__law_unlike_in : Stmt := top 50
abbrev s_law : Stmt := top 51
abbrev exs : List Str := ["CoinError", "NoName", "NoDay", "NoWorth", "NoTerm", "TooMany"]
abbrev objs : List Str := ["Term", "Level", "Called", "Mixed", "Least", "Greatest"]
abbrev lqs : List Str := ["sets_of"]
abbrev tks : List (Str × List Str) := []
/-! ### the head -/
def dd__law_mixed : He.DefD := ⟨("_law_mixed", none), "_law_mixed", "_law_mixed", defArgs s__law_mixed, defBody s__law_mixed, defScope s__law_mixed, [], []⟩
def dd__law_next : He.DefD := ⟨("_law_next", none), "_law_next", "_law_next", defArgs s__law_next, defBody s__law_next, defScope s__law_next, [], []⟩
def dd__law_word : He.DefD := ⟨("_law_word", none), "_law_word", "_law_word", defArgs s__law_word, defBody s__law_word, defScope s__law_word, [], []⟩
def dd__law_words : He.DefD := ⟨("_law_words", none), "_law_words", "_law_words", defArgs s__law_words, defBody s__law_words, defScope s__law_words, [], []⟩
def dd__law_calls : He.DefD := ⟨("_law_calls", none), "_law_calls", "_law_calls", defArgs s__law_calls, defBody s__law_calls, defScope s__law_calls, [], []⟩
def dd__law_day : He.DefD := ⟨("_law_day", none), "_law_day", "_law_day", defArgs s__law_day, defBody s__law_day, defScope s__law_day, [], []⟩
def dd__law_level : He.DefD := ⟨("_law_level", none), "_law_level", "_law_level", defArgs s__law_level, defBody s__law_level, defScope s__law_level, [], []⟩
def dd__law_told : He.DefD := ⟨("_law_told", none), "_law_told", "_law_told", defArgs s__law_told, defBody s__law_told, defScope s__law_told, [], []⟩
def dd_is_number : He.DefD := ⟨("is_number", none), "is_number", "is_number", defArgs s_is_number, defBody s_is_number, defScope s_is_number, [], []⟩
def dd_ask_worth : He.DefD := ⟨("ask_worth", none), "ask_worth", "ask_worth", defArgs s_ask_worth, defBody s_ask_worth, defScope s_ask_worth, [], []⟩
def dd_Level___init__ : He.DefD := ⟨("Level", some "__init__"), "__init__", "Level.__init__", defArgs s_Level___init__, defBody s_Level___init__, defScope s_Level___init__, [], []⟩
def dd_is_name : He.DefD := ⟨("is_name", none), "is_name", "is_name", defArgs s_is_name, defBody s_is_name, defScope s_is_name, [], []⟩
def dd_ask_name : He.DefD := ⟨("ask_name", none), "ask_name", "ask_name", defArgs s_ask_name, defBody s_ask_name, defScope s_ask_name, [], []⟩
def dd_Called___init__ : He.DefD := ⟨("Called", some "__init__"), "__init__", "Called.__init__", defArgs s_Called___init__, defBody s_Called___init__, defScope s_Called___init__, [.non], []⟩
def dd_Level_rules : He.DefD := ⟨("Level", some "rules"), "rules", "Term.rules", defArgs s_Level_rules, defBody s_Level_rules, defScope s_Level_rules, [], []⟩
def dd_Called_rules : He.DefD := ⟨("Called", some "rules"), "rules", "Term.rules", defArgs s_Called_rules, defBody s_Called_rules, defScope s_Called_rules, [], []⟩
def dd_Least_rules : He.DefD := ⟨("Least", some "rules"), "rules", "Mixed.rules", defArgs s_Least_rules, defBody s_Least_rules, defScope s_Least_rules, [], []⟩
def dd_Greatest_rules : He.DefD := ⟨("Greatest", some "rules"), "rules", "Mixed.rules", defArgs s_Greatest_rules, defBody s_Greatest_rules, defScope s_Greatest_rules, [], []⟩
def dd_Level_deep : He.DefD := ⟨("Level", some "deep"), "deep", "Term.deep", defArgs s_Level_deep, defBody s_Level_deep, defScope s_Level_deep, [], []⟩
def dd_Called_deep : He.DefD := ⟨("Called", some "deep"), "deep", "Term.deep", defArgs s_Called_deep, defBody s_Called_deep, defScope s_Called_deep, [], []⟩
def dd_Least_deep : He.DefD := ⟨("Least", some "deep"), "deep", "Mixed.deep", defArgs s_Least_deep, defBody s_Least_deep, defScope s_Least_deep, [], []⟩
def dd_Greatest_deep : He.DefD := ⟨("Greatest", some "deep"), "deep", "Mixed.deep", defArgs s_Greatest_deep, defBody s_Greatest_deep, defScope s_Greatest_deep, [], []⟩
def dd_Least___init__ : He.DefD := ⟨("Least", some "__init__"), "__init__", "Mixed.__init__", defArgs s_Least___init__, defBody s_Least___init__, defScope s_Least___init__, [], []⟩
def dd_Greatest___init__ : He.DefD := ⟨("Greatest", some "__init__"), "__init__", "Mixed.__init__", defArgs s_Greatest___init__, defBody s_Greatest___init__, defScope s_Greatest___init__, [], []⟩
def dd__law_build : He.DefD := ⟨("_law_build", none), "_law_build", "_law_build", defArgs s__law_build, defBody s__law_build, defScope s__law_build, [], []⟩
def dd_rank : He.DefD := ⟨("rank", none), "rank", "rank", defArgs s_rank, defBody s_rank, defScope s_rank, [], []⟩
def dd_ordered : He.DefD := ⟨("ordered", none), "ordered", "ordered", defArgs s_ordered, defBody s_ordered, defScope s_ordered, [], []⟩
def dd_calls_in : He.DefD := ⟨("calls_in", none), "calls_in", "calls_in", defArgs s_calls_in, defBody s_calls_in, defScope s_calls_in, [], []⟩
def dd_sets_of : He.DefD := ⟨("sets_of", none), "sets_of", "sets_of", defArgs s_sets_of, defBody s_sets_of, defScope s_sets_of, [], []⟩
def dd_strength : He.DefD := ⟨("strength", none), "strength", "strength", defArgs s_strength, defBody s_strength, defScope s_strength, [], []⟩
def dd_form : He.DefD := ⟨("form", none), "form", "form", defArgs s_form, defBody s_form, defScope s_form, [], []⟩
def dd__law_form_sound : He.DefD := ⟨("_law_form_sound", none), "_law_form_sound", "_law_form_sound", defArgs s__law_form_sound, defBody s__law_form_sound, defScope s__law_form_sound, [], []⟩
def dd_term_of : He.DefD := ⟨("term_of", none), "term_of", "term_of", defArgs s_term_of, defBody s_term_of, defScope s_term_of, [], []⟩
def dd__law_pair : He.DefD := ⟨("_law_pair", none), "_law_pair", "_law_pair", defArgs s__law_pair, defBody s__law_pair, defScope s__law_pair, [], []⟩
def dd__law_written : He.DefD := ⟨("_law_written", none), "_law_written", "_law_written", defArgs s__law_written, defBody s__law_written, defScope s__law_written, [], []⟩
def dd__law_alike : He.DefD := ⟨("_law_alike", none), "_law_alike", "_law_alike", defArgs s__law_alike, defBody s__law_alike, defScope s__law_alike, [], []⟩
def dd_day_beside : He.DefD := ⟨("day_beside", none), "day_beside", "day_beside", defArgs s_day_beside, defBody s_day_beside, defScope s_day_beside, [], []⟩
def dd_book_of : He.DefD := ⟨("book_of", none), "book_of", "book_of", defArgs s_book_of, defBody s_book_of, defScope s_book_of, [], []⟩
def dd_parted : He.DefD := ⟨("parted", none), "parted", "parted", defArgs s_parted, defBody s_parted, defScope s_parted, [], []⟩
def dd__law_call_worth : He.DefD := ⟨("_law_call_worth", none), "_law_call_worth", "_law_call_worth", defArgs s__law_call_worth, defBody s__law_call_worth, defScope s__law_call_worth, [], []⟩
def dd__law_worth : He.DefD := ⟨("_law_worth", none), "_law_worth", "_law_worth", defArgs s__law_worth, defBody s__law_worth, defScope s__law_worth, [], []⟩
def dd__law_unlike_in : He.DefD := ⟨("_law_unlike_in", none), "_law_unlike_in", "_law_unlike_in", defArgs s__law_unlike_in, defBody s__law_unlike_in, defScope s__law_unlike_in, [], []⟩
def dd_law : He.DefD := ⟨("law", none), "law", "law", defArgs s_law, defBody s_law, defScope s_law, [], []⟩
def fn : List He.DefD := [dd__law_mixed, dd__law_next, dd__law_word, dd__law_words, dd__law_calls, dd__law_day, dd__law_level, dd__law_told, dd_is_number, dd_ask_worth, dd_Level___init__, dd_is_name, dd_ask_name, dd_Called___init__, dd_Level_rules, dd_Called_rules, dd_Least_rules, dd_Greatest_rules, dd_Level_deep, dd_Called_deep, dd_Least_deep, dd_Greatest_deep, dd_Least___init__, dd_Greatest___init__, dd__law_build, dd_rank, dd_ordered, dd_calls_in, dd_sets_of, dd_strength, dd_form, dd__law_form_sound, dd_term_of, dd__law_pair, dd__law_written, dd__law_alike, dd_day_beside, dd_book_of, dd_parted, dd__law_call_worth, dd__law_worth, dd__law_unlike_in, dd_law]
def fa : List He.Fa := [.glo "_law_mixed", .glo "_law_next", .glo "_law_word", .glo "_law_words", .glo "_law_calls", .glo "_law_day", .glo "_law_level", .glo "_law_told", .glo "is_number", .glo "ask_worth", .glo "is_name", .glo "ask_name", .glo "_law_build", .glo "rank", .glo "ordered", .glo "calls_in", .glo "sets_of", .glo "strength", .glo "form", .glo "_law_form_sound", .glo "term_of", .glo "_law_pair", .glo "_law_written", .glo "_law_alike", .glo "day_beside", .glo "book_of", .glo "parted", .glo "_law_call_worth", .glo "_law_worth", .glo "_law_unlike_in", .glo "law", .free "all", .free "bool", .free "int", .free "isinstance", .free "len", .free "max", .free "min", .free "range", .free "sorted", .free "str", .free "sum", .free "tuple", .int "MOST_CALLS" 6, .int "MOST_DEEP" 8, .int "MOST_RULES" 60, .int "TOP" 1000000, .cls "Called", .cls "Greatest", .cls "Least", .cls "Level", .noat "Called" "town", .noat "Called" "when", .noat "Greatest" "terms", .noat "Least" "terms", .noat "Level" "level", .meth "Level" "rules", .meth "Called" "rules", .meth "Least" "rules", .meth "Greatest" "rules", .meth "Level" "deep", .meth "Called" "deep", .meth "Least" "deep", .meth "Greatest" "deep", .mkr "Level", .mkr "Called", .mkr "Least", .mkr "Greatest", .glo "Called", .glo "Greatest", .glo "Least", .glo "Level", .glo "NoDay", .glo "NoName", .glo "NoTerm", .glo "NoWorth", .glo "TooMany", .glo "__builtins__", .glo "rank", .exc "NoDay", .exc "NoName", .exc "NoTerm", .exc "NoWorth", .exc "TooMany"]
def ex (K : PySem.W.Frag) : Bool := cssB exs objs K && (lamB lqs K)
def loose : List Str := ("CoinError" :: "NoName" :: "NoDay" :: "NoWorth" :: "NoTerm" :: "TooMany" :: "TOP" :: "is_name" :: "is_number" :: "ask_name" :: "ask_worth" :: "MOST_RULES" :: "MOST_DEEP" :: "Term" :: "Level" :: "Called" :: "Mixed" :: "Least" :: "Greatest" :: "term_of" :: "MOST_CALLS" :: "calls_in" :: "rank" :: "ordered" :: "sets_of" :: "strength" :: "form" :: "day_beside" :: "parted" :: "book_of" :: "_law_mixed" :: "_law_next" :: "_law_word" :: "_law_words" :: "_law_level" :: "_law_day" :: "_law_calls" :: "_law_told" :: "_law_alike" :: "_law_build" :: "_law_call_worth" :: "_law_worth" :: "_law_pair" :: "_law_written" :: "_law_form_sound" :: "_law_unlike_in" :: [])
abbrev R : PySem.W.OpenRow := PySem.W.OpenLaw.row PySem.Challenge.rw_callcoin_k30_whole_forms_back
def asL : List Addr := [3, 6, 4, 24, 37, 49, 61, 73, 85, 92, 99, 106, 113, 151, 193, 234, 278, 311, 344, 351, 358, 365, 372, 377, 382, 387, 394, 399, 404, 411, 418, 425, 430, 437, 444, 451, 456, 461, 466, 473, 478, 483, 488, 495, 500, 505, 0, 23, 36, 48, 60, 72, 84, 91, 98, 105, 112, 150, 192, 233, 277, 310, 343, 350, 357, 364, 371, 376, 381, 386, 393, 398, 403, 410, 417, 424, 429, 436, 443, 450, 455, 460, 465, 472, 477, 482, 487, 494, 499, 504, 22, 25, 35, 47, 59, 71, 83, 88, 89, 90, 93, 94, 95, 96, 97, 100, 101, 102, 103, 104, 107, 108, 109, 110, 111, 127, 134, 141, 148, 149, 152, 153, 169, 176, 183, 190, 191, 210, 217, 224, 231, 232, 250, 255, 260, 265, 270, 275, 276, 294, 301, 308, 309, 327, 334, 341, 342, 347, 348, 349, 352, 353, 354, 355, 356, 359, 360, 361, 362, 363, 366, 367, 368, 369, 370, 373, 374, 375, 378, 379, 380, 383, 384, 385, 388, 389, 390, 391, 392, 395, 396, 397, 400, 401, 402, 405, 406, 407, 408, 409, 412, 413, 414, 415, 416, 419, 420, 421, 422, 423, 426, 427, 428, 431, 432, 433, 434, 435, 438, 439, 440, 441, 442, 445, 446, 447, 448, 449, 452, 453, 454, 457, 458, 459, 462, 463, 464, 467, 468, 469, 470, 471, 474, 475, 476, 479, 480, 481, 484, 485, 486, 489, 490, 491, 492, 493, 496, 497, 498, 501, 502, 503, 126, 133, 140, 147, 168, 175, 182, 189, 209, 203, 216, 223, 230, 249, 254, 259, 264, 269, 274, 293, 300, 307, 326, 333, 340]
abbrev hk : PySem.W.Hook := hookKL asL fa fn ex tks
def ob (s : PySem.W.SharedT) : AlK := obsKL asL fa fn ex tks (HandSHeadRun.getT s)
theorem ob_eq (s : PySem.W.SharedT) : ob s = hk.obs s.abs := obsKL_eq (HandSHeadRun.getT_eq s)
noncomputable def xr (w : World) (os : OsState) : Option PySem.W.SharedT := HandSHeadRun.endF (HandSHeadRun.stepQ (HandSHeadRun.denQ HandSHeadRun.tabQ) R.prog w) 100000 R.prog w os
noncomputable def l_runA (w : World) (os : OsState) := (xr w os).map (fun s => (HandSHeadRun.looksF R.prog (PySem.W.boot_heap w.params) s.abs, HandSHeadRun.seenQ (PySem.W.view R.prog [51]) loose (importedModules R.prog.main.body) (fun s => PySem.W.xlAt (PySem.W.view R.prog [51]) [] s && PySem.W.recOk R.toRowW.records s) s.abs))
noncomputable def v_runA (w : World) := some (true, PySem.W.openGood (PySem.W.view R.prog [51]) loose)
theorem runA_f (w : World) (os : OsState) : l_runA (w.withFollow "special-get-raises" false) os = v_runA (w.withFollow "special-get-raises" false) := by
  kernel_rfl
theorem runA_t (w : World) (os : OsState) : l_runA (w.withFollow "special-get-raises" true) os = v_runA (w.withFollow "special-get-raises" true) := by
  kernel_rfl
theorem runA_j (w : World) (os : OsState) : l_runA w os = v_runA w := by2 runA_f runA_t w os
theorem runA (w : World) (os : OsState) : (xr w os).map (fun s => (HandSHeadRun.looksF R.prog (PySem.W.boot_heap w.params) s.abs, HandSHeadRun.seenQ (PySem.W.view R.prog [51]) loose (importedModules R.prog.main.body) (fun s => PySem.W.xlAt (PySem.W.view R.prog [51]) [] s && PySem.W.recOk R.toRowW.records s) s.abs)) = some (true, PySem.W.openGood (PySem.W.view R.prog [51]) loose) := by
  have h := runA_j w os
  unfold l_runA v_runA at h
  exact h
noncomputable def l_runF (w : World) (os : OsState) := (xr w os).map (fun s => (fa.all fun f => f.ok (kL asL s)) && tabsBX (HandSHeadRun.getT s) (kL asL s))
noncomputable def v_runF (w : World) := some true
theorem runF_f (w : World) (os : OsState) : l_runF (w.withFollow "special-get-raises" false) os = v_runF (w.withFollow "special-get-raises" false) := by
  kernel_rfl
theorem runF_t (w : World) (os : OsState) : l_runF (w.withFollow "special-get-raises" true) os = v_runF (w.withFollow "special-get-raises" true) := by
  kernel_rfl
theorem runF_j (w : World) (os : OsState) : l_runF w os = v_runF w := by2 runF_f runF_t w os
theorem runF (w : World) (os : OsState) : (xr w os).map (fun s => (fa.all fun f => f.ok (kL asL s)) && tabsBX (HandSHeadRun.getT s) (kL asL s)) = some true := by
  have h := runF_j w os
  unfold l_runF v_runF at h
  exact h
noncomputable def l_runN (w : World) (os : OsState) := (xr w os).map (fun s => ((fn.all fun d => d.ok (kL asL s)), fn.map fun d => He.fnW (kL asL s) d.at_))
noncomputable def v_runN (w : World) := some (true, fn.map He.DefD.val)
theorem runN_f (w : World) (os : OsState) : l_runN (w.withFollow "special-get-raises" false) os = v_runN (w.withFollow "special-get-raises" false) := by
  kernel_rfl
theorem runN_t (w : World) (os : OsState) : l_runN (w.withFollow "special-get-raises" true) os = v_runN (w.withFollow "special-get-raises" true) := by
  kernel_rfl
theorem runN_j (w : World) (os : OsState) : l_runN w os = v_runN w := by2 runN_f runN_t w os
theorem runN (w : World) (os : OsState) : (xr w os).map (fun s => ((fn.all fun d => d.ok (kL asL s)), fn.map fun d => He.fnW (kL asL s) d.at_)) = some (true, fn.map He.DefD.val) := by
  have h := runN_j w os
  unfold l_runN v_runN at h
  exact h
noncomputable def l_runE (w : World) (os : OsState) := (xr w os).map (fun s => (ex (kL asL s), keysOb tks (kL asL s)))
noncomputable def v_runE (w : World) := some (true, keysVal tks w)
theorem runE_f (w : World) (os : OsState) : l_runE (w.withFollow "special-get-raises" false) os = v_runE (w.withFollow "special-get-raises" false) := by
  kernel_rfl
theorem runE_t (w : World) (os : OsState) : l_runE (w.withFollow "special-get-raises" true) os = v_runE (w.withFollow "special-get-raises" true) := by
  kernel_rfl
theorem runE_j (w : World) (os : OsState) : l_runE w os = v_runE w := by2 runE_f runE_t w os
theorem runE (w : World) (os : OsState) : (xr w os).map (fun s => (ex (kL asL s), keysOb tks (kL asL s))) = some (true, keysVal tks w) := by
  have h := runE_j w os
  unfold l_runE v_runE at h
  exact h
theorem run (w : World) : HandSHeadRun.RunEq R (PySem.W.view R.prog [51]) hk ob 100000 loose w := fun os => run_ofL (as := asL) (ex := ex) (runA w os) (runF w os) (runN w os) (runE w os)
end Pf
namespace Dl
open PySem L2
/-! data: what a value stands for, deep -/
inductive D where
  | non | bl (b : Bool) | int (i : Int) | str (x : Str) | ref (a : Addr) | ty (n : String)
  | tup (l : List D) | lst (l : List D) | scr (l : List D) | dct (l : List (Key × D)) | dcT (l : List (List Key × D)) | obj (C : Str) (fs : List (Str × D)) | exc (C : Str) (fs : List (Str × D)) (own : Bool) | drw (ns : List Int) | fn (n : Str) | ktp (l : List D)
/-- a mutable cell -/
inductive MO where
  | lst (l : List D) | dct (l : List (Key × D)) | dcT (l : List (List Key × D)) | obj (C : Str) (fs : List (Str × D)) | lck (o : Obj) (kvs : List (Key × V)) (l : List (Key × D)) | lckT (o : Obj) (kvs : List (List Key × V)) (l : List (List Key × D))
abbrev Mem := Addr → Option MO
inductive SL where
  | no | val (d : D) | own (m : MO)
abbrev Ss := List SL
variable {K : PySem.W.Frag}
/-- an exception that was caught: its class, its own dict -/
def ExO (a : Addr) (cls : Value) (d : Option Addr) : HO := .ext fun h => ∃ o, h.get? a = some o ∧ o.cls = cls ∧ o.dict = d ∧ ∃ vs, o.data = .fields vs
mutual
def Rep (K : PySem.W.Frag) (S : Hp) : D → V → Prop
  | .non, v => v = .non
  | .bl b, v => v = .bl b
  | .int i, v => v = .int i
  | .str x, v => v = .str x
  | .ref a, v => v = .ref a
  | .ty n, v => v = .ty n
  | .tup ds, v => ∃ a vs, v = .ref a ∧ S a = some (.tup vs) ∧ RepL K S ds vs
  | .lst ds, v => ∃ a vs, v = .ref a ∧ S a = some (.lst vs) ∧ RepL K S ds vs
  | .scr ds, v => ∃ a vs, v = .ref a ∧ SqL K S a vs ∧ RepL K S ds vs
  | .dct ds, v => ∃ a kvs, v = .ref a ∧ Rd S a (.dK kvs) ∧ RepK K S ds kvs
  | .dcT ds, v => ∃ a kvs, v = .ref a ∧ Rd S a (.dT kvs) ∧ RepT K S ds kvs
  | .obj C ds, v => ∃ a dx fs, v = .ref a ∧ S a = some (.ins (He.ga K C) dx fs) ∧ RepF K S ds fs
  | .exc C ds false, v => ∃ a, v = .ref a ∧ S a = some (ExO a (.ref (He.ga K C)) none) ∧ ds = []
  | .exc C ds true, v => ∃ a x fs, v = .ref a ∧ S a = some (ExO a (.ref (He.ga K C)) (some x)) ∧ S x = some (.xd fs) ∧ RepF K S ds fs
  | .drw ns, v => ∃ a sa, v = .ref a ∧ S a = some (.met sa sa) ∧ SqL K S sa (ns.map V.int) ∧ ns.length ≤ 63
  | .fn n, v => v = .ref (He.ga K n)
  | .ktp ds, v => ∃ a vs, v = .ref a ∧ SqT K S a vs ∧ RepL K S ds vs
def RepL (K : PySem.W.Frag) (S : Hp) : List D → List V → Prop
  | [], vs => vs = []
  | d :: ds, vs => ∃ v r, vs = v :: r ∧ Rep K S d v ∧ RepL K S ds r
def RepK (K : PySem.W.Frag) (S : Hp) : List (Key × D) → List (Key × V) → Prop
  | [], vs => vs = []
  | (k, d) :: ds, vs => ∃ v r, vs = (k, v) :: r ∧ Rep K S d v ∧ RepK K S ds r
def RepT (K : PySem.W.Frag) (S : Hp) : List (List Key × D) → List (List Key × V) → Prop
  | [], vs => vs = []
  | (k, d) :: ds, vs => ∃ v r, vs = (k, v) :: r ∧ Rep K S d v ∧ RepT K S ds r
def RepF (K : PySem.W.Frag) (S : Hp) : List (Str × D) → List (Str × V) → Prop
  | [], vs => vs = []
  | (k, d) :: ds, vs => ∃ v r, vs = (k, v) :: r ∧ Rep K S d v ∧ RepF K S ds r
end
def RepM (K : PySem.W.Frag) (S : Hp) : MO → HO → Prop
  | .lst ds, o => ∃ vs, o = .lst vs ∧ RepL K S ds vs
  | .dct ds, o => ∃ vs, o = .dK vs ∧ RepK K S ds vs
  | .dcT ds, o => ∃ vs, o = .dT vs ∧ RepT K S ds vs
  | .obj C ds, o => ∃ dx vs, o = .ins (He.ga K C) dx vs ∧ RepF K S ds vs
  | .lck od kvs ds, o => o = .frz od (.dK kvs) ∧ RepK K S ds kvs
  | .lckT od kvs ds, o => o = .frz od (.dT kvs) ∧ RepT K S ds kvs
def Ex (S S' : Hp) : Prop := ∀ a o, S a = some o → S' a = some o
theorem Ex.refl (S : Hp) : Ex S S := fun _ _ h => h
theorem Ex.trans {S S1 S2 : Hp} (a : Ex S S1) (b : Ex S1 S2) : Ex S S2 := fun x o h => b x o (a x o h)
theorem Ex.new {S : Hp} {p : Addr} {o : HO} (h : S p = none) : Ex S (upd S p o) := fun a u e => by rw [upd_ne (ne_of_none e h)]; exact e
theorem ex_rd {S S' : Hp} {a : Addr} {u : HO} (e : Ex S S') (h : Rd S a u) : Rd S' a u := by
  rcases h with h | ⟨o, h⟩
  · exact .inl (e _ _ h)
  · exact .inr ⟨o, e _ _ h⟩
theorem ex_l {S S' : Hp} {a : Addr} {xs : List V} (e : Ex S S') (h : SqL K S a xs) : SqL K S' a xs := by
  rcases h with h | h
  · exact .inl (ex_rd e h)
  · exact .inr h
theorem ex_t {S S' : Hp} {a : Addr} {xs : List V} (e : Ex S S') (h : SqT K S a xs) : SqT K S' a xs := by
  rcases h with h | h
  · exact .inl (ex_rd e h)
  · exact .inr h
mutual
theorem Rep.mono {S S' : Hp} (e : Ex S S') : ∀ (d : D) (v : V), Rep K S d v → Rep K S' d v
  | .non, _, h => h
  | .bl _, _, h => h
  | .int _, _, h => h
  | .str _, _, h => h
  | .ref _, _, h => h
  | .ty _, _, h => h
  | .tup ds, _, h => by
    obtain ⟨a, vs, e1, h1, h2⟩ := h
    exact ⟨a, vs, e1, e _ _ h1, RepL.mono e ds vs h2⟩
  | .lst ds, _, h => by
    obtain ⟨a, vs, e1, h1, h2⟩ := h
    exact ⟨a, vs, e1, e _ _ h1, RepL.mono e ds vs h2⟩
  | .scr ds, _, h => by
    obtain ⟨a, vs, e1, h1, h2⟩ := h
    exact ⟨a, vs, e1, ex_l e h1, RepL.mono e ds vs h2⟩
  | .dct ds, _, h => by
    obtain ⟨a, vs, e1, h1, h2⟩ := h
    exact ⟨a, vs, e1, ex_rd e h1, RepK.mono e ds vs h2⟩
  | .dcT ds, _, h => by
    obtain ⟨a, vs, e1, h1, h2⟩ := h
    exact ⟨a, vs, e1, ex_rd e h1, RepT.mono e ds vs h2⟩
  | .obj C ds, _, h => by
    obtain ⟨a, dx, vs, e1, h1, h2⟩ := h
    exact ⟨a, dx, vs, e1, e _ _ h1, RepF.mono e ds vs h2⟩
  | .exc C ds false, _, h => by
    obtain ⟨a, e1, h1, h2⟩ := h
    exact ⟨a, e1, e _ _ h1, h2⟩
  | .exc C ds true, _, h => by
    obtain ⟨a, x, vs, e1, h1, h2, h3⟩ := h
    exact ⟨a, x, vs, e1, e _ _ h1, e _ _ h2, RepF.mono e ds vs h3⟩
  | .drw ns, _, h => by
    obtain ⟨a, sa, e1, h1, h2, h3⟩ := h
    exact ⟨a, sa, e1, e _ _ h1, ex_l e h2, h3⟩
  | .fn _, _, h => h
  | .ktp ds, _, h => by
    obtain ⟨a, vs, e1, h1, h2⟩ := h
    exact ⟨a, vs, e1, ex_t e h1, RepL.mono e ds vs h2⟩
theorem RepL.mono {S S' : Hp} (e : Ex S S') : ∀ (ds : List D) (vs : List V), RepL K S ds vs → RepL K S' ds vs
  | [], _, h => h
  | d :: ds, _, h => by
    obtain ⟨v, r, e1, h1, h2⟩ := h
    exact ⟨v, r, e1, Rep.mono e d v h1, RepL.mono e ds r h2⟩
theorem RepK.mono {S S' : Hp} (e : Ex S S') : ∀ (ds : List (Key × D)) (vs : List (Key × V)), RepK K S ds vs → RepK K S' ds vs
  | [], _, h => h
  | (k, d) :: ds, _, h => by
    obtain ⟨v, r, e1, h1, h2⟩ := h
    exact ⟨v, r, e1, Rep.mono e d v h1, RepK.mono e ds r h2⟩
theorem RepT.mono {S S' : Hp} (e : Ex S S') : ∀ (ds : List (List Key × D)) (vs : List (List Key × V)), RepT K S ds vs → RepT K S' ds vs
  | [], _, h => h
  | (k, d) :: ds, _, h => by
    obtain ⟨v, r, e1, h1, h2⟩ := h
    exact ⟨v, r, e1, Rep.mono e d v h1, RepT.mono e ds r h2⟩
theorem RepF.mono {S S' : Hp} (e : Ex S S') : ∀ (ds : List (Str × D)) (vs : List (Str × V)), RepF K S ds vs → RepF K S' ds vs
  | [], _, h => h
  | (k, d) :: ds, _, h => by
    obtain ⟨v, r, e1, h1, h2⟩ := h
    exact ⟨v, r, e1, Rep.mono e d v h1, RepF.mono e ds r h2⟩
end
theorem RepM.mono {S S' : Hp} (e : Ex S S') : ∀ (m : MO) (o : HO), RepM K S m o → RepM K S' m o
  | .lst ds, _, h => by
    obtain ⟨vs, e1, h2⟩ := h
    exact ⟨vs, e1, RepL.mono e ds vs h2⟩
  | .dct ds, _, h => by
    obtain ⟨vs, e1, h2⟩ := h
    exact ⟨vs, e1, RepK.mono e ds vs h2⟩
  | .dcT ds, _, h => by
    obtain ⟨vs, e1, h2⟩ := h
    exact ⟨vs, e1, RepT.mono e ds vs h2⟩
  | .obj C ds, _, h => by
    obtain ⟨dx, vs, e1, h2⟩ := h
    exact ⟨dx, vs, e1, RepF.mono e ds vs h2⟩
  | .lck od kvs ds, _, h => ⟨h.1, RepK.mono e ds kvs h.2⟩
  | .lckT od kvs ds, _, h => ⟨h.1, RepT.mono e ds kvs h.2⟩
theorem RepL.length {S : Hp} : ∀ {ds : List D} {vs : List V}, RepL K S ds vs → vs.length = ds.length
  | [], _, h => by have h : _ = _ := h; rw [h]; rfl
  | d :: ds, _, h => by
    obtain ⟨v, r, rfl, _, h2⟩ := h
    rw [List.length_cons, List.length_cons, RepL.length h2]
theorem RepL.get {S : Hp} : ∀ {ds : List D} {vs : List V} {i : Nat} {d : D}, RepL K S ds vs → ds[i]? = some d → ∃ v, vs[i]? = some v ∧ Rep K S d v
  | [], _, i, d, h, e => by simp at e
  | d :: ds, _, 0, d', h, e => by
    obtain ⟨v, r, rfl, h1, h2⟩ := h
    simp at e
    subst e
    exact ⟨v, by simp, h1⟩
  | d :: ds, _, i + 1, d', h, e => by
    obtain ⟨v, r, rfl, h1, h2⟩ := h
    obtain ⟨v', e', h'⟩ := RepL.get (i := i) h2 (by simpa using e)
    exact ⟨v', by simpa using e', h'⟩
theorem RepL.append {S : Hp} : ∀ {ds es : List D} {vs ws : List V}, RepL K S ds vs → RepL K S es ws → RepL K S (ds ++ es) (vs ++ ws)
  | [], _, _, _, h, h' => by have h : _ = _ := h; rw [h]; exact h'
  | d :: ds, _, _, _, h, h' => by
    obtain ⟨v, r, rfl, h1, h2⟩ := h
    exact ⟨v, _, rfl, h1, RepL.append h2 h'⟩
theorem RepL.one {S : Hp} {d : D} {v : V} (h : Rep K S d v) : RepL K S [d] [v] := ⟨v, [], rfl, h, rfl⟩
theorem RepL.set {S : Hp} {d : D} {v : V} (h : Rep K S d v) : ∀ {ds : List D} {vs : List V} (i : Nat), RepL K S ds vs → RepL K S (ds.set i d) (vs.set i v)
  | [], _, i, h' => by have h' : _ = _ := h'; rw [h']; rfl
  | _ :: ds, _, 0, h' => by
    obtain ⟨v', r, rfl, h1, h2⟩ := h'
    exact ⟨v, r, rfl, h, h2⟩
  | _ :: ds, _, i + 1, h' => by
    obtain ⟨v', r, rfl, h1, h2⟩ := h'
    exact ⟨v', _, rfl, h1, RepL.set h i h2⟩
theorem RepL.drop {S : Hp} : ∀ {ds : List D} {vs : List V} (i : Nat), RepL K S ds vs → RepL K S (ds.drop i) (vs.drop i)
  | [], _, i, h' => by have h' : _ = _ := h'; rw [h']; simp [RepL]
  | _ :: ds, _, 0, h' => h'
  | _ :: ds, _, i + 1, h' => by
    obtain ⟨v', r, rfl, h1, h2⟩ := h'
    exact RepL.drop i h2
theorem RepL.take {S : Hp} : ∀ {ds : List D} {vs : List V} (i : Nat), RepL K S ds vs → RepL K S (ds.take i) (vs.take i)
  | [], _, i, h' => by have h' : _ = _ := h'; rw [h']; simp [RepL]
  | _ :: ds, _, 0, h' => rfl
  | _ :: ds, _, i + 1, h' => by
    obtain ⟨v', r, rfl, h1, h2⟩ := h'
    exact ⟨v', _, rfl, h1, RepL.take i h2⟩
theorem RepL.reverse {S : Hp} : ∀ {ds : List D} {vs : List V}, RepL K S ds vs → RepL K S ds.reverse vs.reverse
  | [], _, h' => by have h' : _ = _ := h'; rw [h']; rfl
  | d :: ds, _, h' => by
    obtain ⟨v', r, rfl, h1, h2⟩ := h'
    rw [List.reverse_cons, List.reverse_cons]
    exact RepL.append (RepL.reverse h2) (RepL.one h1)
theorem RepL.int {S : Hp} : ∀ {ns : List Int} {vs : List V}, RepL K S (ns.map D.int) vs → vs = ns.map V.int
  | [], _, h => h
  | n :: ns, _, h => by
    obtain ⟨v, r, rfl, h1, h2⟩ := h
    have h1 : v = _ := h1
    rw [h1, RepL.int h2]; rfl
theorem RepL.ints {S : Hp} : ∀ {ns : List Int}, RepL K S (ns.map D.int) (ns.map V.int)
  | [] => rfl
  | n :: ns => ⟨_, _, rfl, rfl, RepL.ints⟩
theorem RepL.str {S : Hp} : ∀ {ns : List Str} {vs : List V}, RepL K S (ns.map D.str) vs → vs = ns.map V.str
  | [], _, h => h
  | n :: ns, _, h => by
    obtain ⟨v, r, rfl, h1, h2⟩ := h
    have h1 : v = _ := h1
    rw [h1, RepL.str h2]; rfl
theorem RepL.bl {S : Hp} : ∀ {ns : List Bool} {vs : List V}, RepL K S (ns.map D.bl) vs → vs = ns.map V.bl
  | [], _, h => h
  | n :: ns, _, h => by
    obtain ⟨v, r, rfl, h1, h2⟩ := h
    have h1 : v = _ := h1
    rw [h1, RepL.bl h2]; rfl
/-! the relation of a state of data and a heap -/
def isDc : HO → Prop
  | .dK _ => True
  | .dT _ => True
  | _ => False
/-- no mark of a draw, no table -/
def notMet : HO → Prop
  | .met _ _ => False
  | .tbl _ => False
  | _ => True
/-- neither a table nor what stands in one -/
def NX : HO → Prop
  | .ext _ => False
  | .tbl _ => False
  | _ => True
def notTbl (u : HO) : Prop := ∀ ps, u ≠ .tbl ps
/-- a draw: the script and how many were drawn, which changes unseen -/
def DrwAt (H : Hp) (a : Addr) (u : HO) : Prop := ∃ sa n, u = .met sa sa ∧ H a = some (.lst [.ref sa, .int n]) ∧ 0 ≤ n
def ExR (S H : Hp) : Prop := ∀ a u, S a = some u → (H a = some u ∧ notMet u) ∨ (isDc u ∧ ∃ o, H a = some (.frz o u)) ∨ DrwAt H a u
theorem ExR.at {S H : Hp} (e : ExR S H) {a : Addr} {u : HO} (h : S a = some u) (hn : notMet u) : H a = some u ∨ (isDc u ∧ ∃ o, H a = some (.frz o u)) := by
  rcases e a u h with q | q | ⟨sa, n, rfl, _⟩
  · exact .inl q.1
  · exact .inr q
  · exact hn.elim
theorem ExR.drw {S H : Hp} (e : ExR S H) {a sa : Addr} (h : S a = some (.met sa sa)) : ∃ n, H a = some (.lst [.ref sa, .int n]) ∧ 0 ≤ n := by
  rcases e a _ h with q | q | ⟨sb, n, q, h1, h2⟩
  · exact q.2.elim
  · exact q.1.elim
  · cases q; exact ⟨n, h1, h2⟩
theorem ExR.has {S H : Hp} (e : ExR S H) {a : Addr} {u : HO} (h : S a = some u) : ∃ o, H a = some o := by
  rcases e a u h with q | ⟨_, o, q⟩ | ⟨sa, n, _, q, _⟩
  · exact ⟨_, q.1⟩
  · exact ⟨_, q⟩
  · exact ⟨_, q⟩
/-- what a store elsewhere leaves -/
theorem exr_upd {S H : Hp} {a p : Addr} {u o : HO} (h : (H a = some u ∧ notMet u) ∨ (isDc u ∧ ∃ o, H a = some (.frz o u)) ∨ DrwAt H a u) (ha : a ≠ p) : (L2.upd H p o a = some u ∧ notMet u) ∨ (isDc u ∧ ∃ x, L2.upd H p o a = some (.frz x u)) ∨ DrwAt (L2.upd H p o) a u := by
  rcases h with q | ⟨c, x, q⟩ | ⟨sa, n, e, q, z⟩
  · exact .inl ⟨by rw [upd_ne ha]; exact q.1, q.2⟩
  · exact .inr (.inl ⟨c, x, by rw [upd_ne ha]; exact q⟩)
  · exact .inr (.inr ⟨sa, n, e, by rw [upd_ne ha]; exact q, z⟩)
theorem RepM.notMet {S : Hp} {m : MO} {o : HO} (h : RepM K S m o) : notMet o := by
  cases m with
  | lst l => obtain ⟨vs, rfl, _⟩ := h; trivial
  | dct l => obtain ⟨vs, rfl, _⟩ := h; trivial
  | dcT l => obtain ⟨vs, rfl, _⟩ := h; trivial
  | obj C l => obtain ⟨dx, vs, rfl, _⟩ := h; trivial
  | lck od kvs l => obtain ⟨rfl, _⟩ := h; trivial
  | lckT od kvs l => obtain ⟨rfl, _⟩ := h; trivial
theorem RepM.nx {S : Hp} {m : MO} {o : HO} (h : RepM K S m o) : NX o := by
  cases m with
  | lst l => obtain ⟨vs, rfl, _⟩ := h; trivial
  | dct l => obtain ⟨vs, rfl, _⟩ := h; trivial
  | dcT l => obtain ⟨vs, rfl, _⟩ := h; trivial
  | obj C l => obtain ⟨dx, vs, rfl, _⟩ := h; trivial
  | lck od kvs l => obtain ⟨rfl, _⟩ := h; trivial
  | lckT od kvs l => obtain ⟨rfl, _⟩ := h; trivial
theorem NX.nt {o : HO} (h : NX o) : notTbl o := fun ps z => by rw [z] at h; exact h
theorem nt_met {o : HO} (h : notMet o) : notTbl o := fun ps z => by rw [z] at h; exact h
structure TB (K : PySem.W.Frag) (S : Hp) (μ : Mem) (H : Hp) : Prop where
  t : ∀ p ∈ tabList K, S p.1 = none ∧ μ p.1 = none ∧ LamX.TabS H p.1 p.2
def OldX (H : Hp) (p : Addr) : Prop := ∀ u, H p = some u → NX u
theorem oldX_none {H : Hp} {p : Addr} (h : H p = none) : OldX H p := fun u e => by rw [h] at e; cases e
theorem oldX_some {H : Hp} {p : Addr} {o : HO} (h : H p = some o) (ho : NX o) : OldX H p := fun u e => by rw [h] at e; cases e; exact ho
theorem tab_upd {H : Hp} {p P : Addr} {o : HO} {q : Str} (hp : OldX H p) (t : LamX.TabS H P q) : LamX.TabS (upd H p o) P q := by
  obtain ⟨ps, h1, h2, h3⟩ := t
  refine ⟨ps, by rw [upd_ne (fun z => hp (.tbl ps) (by rw [← z]; exact h1))]; exact h1, h2, fun pos cv hc => ?_⟩
  obtain ⟨c, e1, e2⟩ := h3 pos cv hc
  exact ⟨c, e1, by rw [upd_ne (fun z => hp (LamX.CodeO c q) (by rw [← z]; exact e2))]; exact e2⟩
theorem TB.w {S : Hp} {μ : Mem} {H : Hp} {p : Addr} {o : HO} (t : TB K S μ H) (hp : OldX H p) (_ : notTbl o) : TB K S μ (upd H p o) :=
  ⟨fun z hz => ⟨(t.t z hz).1, (t.t z hz).2.1, tab_upd hp (t.t z hz).2.2⟩⟩
theorem TB.s {S : Hp} {μ : Mem} {H : Hp} {p : Addr} {o : HO} (t : TB K S μ H) (hp : OldX H p) : TB K (upd S p o) μ H :=
  ⟨fun z hz => by
    obtain ⟨h1, h2, h3⟩ := t.t z hz
    obtain ⟨ps, e, r⟩ := id h3
    exact ⟨by rw [upd_ne (fun y => hp (.tbl ps) (by rw [← y]; exact e))]; exact h1, h2, h3⟩⟩
theorem TB.d {S : Hp} {μ μ' : Mem} {H : Hp} (t : TB K S μ H) (h : ∀ a m, μ' a = some m → μ a = some m) : TB K S μ' H :=
  ⟨fun z hz => by
    obtain ⟨h1, h2, h3⟩ := t.t z hz
    exact ⟨h1, Option.eq_none_iff_forall_ne_some.mpr (fun m e => by have z := (h _ _ e).symm.trans h2; cases z), h3⟩⟩
structure R3 (K : PySem.W.Frag) (S : Hp) (μ : Mem) (H : Hp) : Prop where
  ex : ExR S H
  mu : ∀ a m, μ a = some m → S a = none ∧ ∃ o, H a = some o ∧ RepM K S m o
  tb : TB K S μ H
/-- a tuple: it may come to be known later -/
def isTup (o : HO) : Prop := ∃ vs, o = .tup vs
theorem RepM.noTup {S : Hp} {m : MO} {o : HO} (h : RepM K S m o) : ¬ isTup o := fun ⟨us, z⟩ => by
  cases m with
  | lst l => obtain ⟨vs, rfl, _⟩ := h; cases z
  | dct l => obtain ⟨vs, rfl, _⟩ := h; cases z
  | dcT l => obtain ⟨vs, rfl, _⟩ := h; cases z
  | obj C l => obtain ⟨dx, vs, rfl, _⟩ := h; cases z
  | lck od kvs l => obtain ⟨rfl, _⟩ := h; cases z
  | lckT od kvs l => obtain ⟨rfl, _⟩ := h; cases z
structure Grow (S : Hp) (μ : Mem) (H : Hp) (S' : Hp) (μ' : Mem) (H' : Hp) : Prop where
  ex : Ex S S'
  st : ∀ a o, S' a = some o → S a = some o ∨ H a = none ∨ (μ a).isSome = true ∨ (isTup o ∧ (S a = none → μ a = none → ∀ o', notTbl o' → H a = some o' → o' = o))
  kp : ∀ a o, H a = some o → μ a = none → (∀ sa, S a ≠ some (.met sa sa)) → notTbl o → H' a = some o
  me : ∀ a m, μ' a = some m → (μ a).isSome = true ∨ H a = none
  th : ∀ a o, H a = some o → ∃ o', H' a = some o'
theorem Grow.refl {S : Hp} {μ : Mem} {H : Hp} : Grow S μ H S μ H := ⟨Ex.refl S, fun _ _ h => .inl h, fun _ _ h _ _ _ => h, fun _ _ h => .inl (by rw [h]; rfl), fun _ o h => ⟨o, h⟩⟩
theorem Grow.trans {S S1 S2 : Hp} {μ μ1 μ2 : Mem} {H H1 H2 : Hp} (a : Grow S μ H S1 μ1 H1) (b : Grow S1 μ1 H1 S2 μ2 H2) : Grow S μ H S2 μ2 H2 := by
  have hn : ∀ x, H1 x = none → H x = none ∨ (μ x).isSome = true := fun x h => by
    cases e : H x with
    | none => exact .inl rfl
    | some o =>
      obtain ⟨o', q⟩ := a.th x o e
      rw [h] at q; cases q
  have hm : ∀ x, (μ1 x).isSome = true → H x = none ∨ (μ x).isSome = true := fun x h => by
    obtain ⟨m, e⟩ := Option.isSome_iff_exists.mp h
    exact (a.me x m e).symm
  refine ⟨a.ex.trans b.ex, fun x o h => ?_, fun x o h h0 hs hn => ?_, fun x m h => ?_, fun x o h => ?_⟩
  · have hn' : ∀ {x}, H1 x = none → H x = none ∨ (μ x).isSome = true ∨ (isTup o ∧ (S x = none → μ x = none → ∀ o', notTbl o' → H x = some o' → o' = o)) := fun {x} z => (hn x z).imp id .inl
    have hm' : ∀ {x}, (μ1 x).isSome = true → H x = none ∨ (μ x).isSome = true ∨ (isTup o ∧ (S x = none → μ x = none → ∀ o', notTbl o' → H x = some o' → o' = o)) := fun {x} z => (hm x z).imp id .inl
    rcases b.st x o h with h1 | h1 | h1 | ⟨h1, h2⟩
    · exact a.st x o h1
    · exact .inr (hn' h1)
    · exact .inr (hm' h1)
    · refine .inr (.inr (.inr ⟨h1, fun z0 z1 o' t z2 => ?_⟩))
      cases e1 : S1 x with
      | some o1 =>
        have e2 := b.ex x o1 e1
        rw [h] at e2
        cases e2
        rcases a.st x o e1 with q | q | q | ⟨_, q⟩
        · rw [z0] at q; cases q
        · rw [z2] at q; cases q
        · rw [z1] at q; cases q
        · exact q z0 z1 o' t z2
      | none =>
        have m1 : μ1 x = none := by
          cases e : μ1 x with
          | none => rfl
          | some m =>
            rcases a.me x m e with q | q
            · rw [z1] at q; cases q
            · rw [z2] at q; cases q
        exact h2 e1 m1 o' t (a.kp x o' z2 z1 (fun sa y => by rw [z0] at y; cases y) t)
  · refine b.kp x o (a.kp x o h h0 hs hn) ?_ (fun sa z => ?_) hn
    · cases e : μ1 x with
      | none => rfl
      | some m =>
        rcases a.me x m e with q | q
        · rw [h0] at q; cases q
        · rw [h] at q; cases q
    · rcases a.st x _ z with q | q | q | ⟨⟨_, q⟩, _⟩
      · exact hs sa q
      · rw [h] at q; cases q
      · rw [h0] at q; cases q
      · cases q
  · rcases b.me x m h with h | h
    · exact (hm x h).symm
    · exact (hn x h).symm
  · obtain ⟨o', e⟩ := a.th x o h
    exact b.th x o' e
theorem th_upd {H : Hp} {p : Addr} {u : HO} : ∀ a o, H a = some o → ∃ o', (upd H p u) a = some o' := fun a o h => by
  by_cases ha : a = p
  · subst ha; exact ⟨u, upd_same⟩
  · exact ⟨o, by rw [upd_ne ha]; exact h⟩
/-- a fresh immutable object -/
theorem R3.free {S : Hp} {μ : Mem} {H : Hp} (r : R3 K S μ H) {p : Addr} (h : H p = none) : S p = none ∧ μ p = none := by
  constructor
  · cases e : S p with
    | none => rfl
    | some u =>
      obtain ⟨o, q⟩ := r.ex.has e
      rw [h] at q; cases q
  · cases e : μ p with
    | none => rfl
    | some m =>
      obtain ⟨_, o, q, _⟩ := r.mu p m e
      rw [h] at q; cases q
theorem R3.alloc {S : Hp} {μ : Mem} {H : Hp} (r : R3 K S μ H) {p : Addr} {o : HO} (h : H p = none) (ho : notMet o := by trivial) : R3 K (upd S p o) μ (upd H p o) ∧ Grow S μ H (upd S p o) μ (upd H p o) := by
  obtain ⟨hs, hm⟩ := r.free h
  refine ⟨⟨fun a u e => ?_, fun a m e => ?_, (r.tb.s (oldX_none h)).w (oldX_none h) (nt_met ho)⟩, ⟨Ex.new hs, fun a u e => ?_, fun a u e _ _ _ => ?_, fun a m e => .inl (by rw [e]; rfl), th_upd⟩⟩
  · by_cases ha : a = p
    · subst ha; rw [upd_same] at e; cases e; exact .inl ⟨upd_same, ho⟩
    · rw [upd_ne ha] at e; exact exr_upd (S := S) (r.ex a u e) ha
  · have ha : a ≠ p := fun z => by rw [z, hm] at e; cases e
    obtain ⟨h1, u, h2, h3⟩ := r.mu a m e
    exact ⟨by rw [upd_ne ha]; exact h1, u, by rw [upd_ne ha]; exact h2, RepM.mono (Ex.new hs) m u h3⟩
  · by_cases ha : a = p
    · subst ha; exact .inr (.inl h)
    · rw [upd_ne ha] at e; exact .inl e
  · rw [upd_ne (ne_of_none e h)]; exact e
def updM (μ : Mem) (a : Addr) (m : MO) : Mem := fun b => if b = a then some m else μ b
theorem updM_same {μ : Mem} {a : Addr} {m : MO} : updM μ a m a = some m := by unfold updM; rw [if_pos rfl]
theorem updM_ne {μ : Mem} {a b : Addr} {m : MO} (h : b ≠ a) : updM μ a m b = μ b := by unfold updM; rw [if_neg h]
theorem updM_upd {μ : Mem} {a : Addr} {m n : MO} : updM (updM μ a m) a n = updM μ a n := by
  funext b; unfold updM; split <;> rfl
theorem TB.m {S : Hp} {μ : Mem} {H : Hp} {p : Addr} {m : MO} (t : TB K S μ H) (hp : OldX H p) : TB K S (updM μ p m) H :=
  ⟨fun z hz => by
    obtain ⟨h1, h2, h3⟩ := t.t z hz
    obtain ⟨ps, e, r⟩ := id h3
    exact ⟨h1, by rw [updM_ne (fun y => hp (.tbl ps) (by rw [← y]; exact e))]; exact h2, h3⟩⟩
/-- a fresh cell -/
theorem R3.cell {S : Hp} {μ : Mem} {H : Hp} (r : R3 K S μ H) {p : Addr} {o : HO} {m : MO} (h : H p = none) (hr : RepM K S m o) : R3 K S (updM μ p m) (upd H p o) ∧ Grow S μ H S (updM μ p m) (upd H p o) := by
  obtain ⟨hs, hm⟩ := r.free h
  refine ⟨⟨fun a u e => ?_, fun a n e => ?_, (r.tb.m (oldX_none h)).w (oldX_none h) hr.nx.nt⟩, ⟨Ex.refl S, fun a u e => .inl e, fun a u e _ _ _ => ?_, fun a n e => ?_, th_upd⟩⟩
  · exact exr_upd (S := S) (r.ex a u e) (fun z => by rw [z, hs] at e; cases e)
  · by_cases ha : a = p
    · subst ha; rw [updM_same] at e; cases e; exact ⟨hs, o, upd_same, hr⟩
    · rw [updM_ne ha] at e
      obtain ⟨h1, u, h2, h3⟩ := r.mu a n e
      exact ⟨h1, u, by rw [upd_ne ha]; exact h2, h3⟩
  · rw [upd_ne (ne_of_none e h)]; exact e
  · by_cases ha : a = p
    · subst ha; exact .inr h
    · rw [updM_ne ha] at e; exact .inl (by rw [e]; rfl)
/-- a cell changed -/
theorem R3.write {S : Hp} {μ : Mem} {H : Hp} (r : R3 K S μ H) {p : Addr} {o : HO} {m m0 : MO} (h : μ p = some m0) (hr : RepM K S m o) : R3 K S (updM μ p m) (upd H p o) ∧ Grow S μ H S (updM μ p m) (upd H p o) := by
  obtain ⟨hs, u0, h0, hr0⟩ := r.mu p m0 h
  refine ⟨⟨fun a u e => ?_, fun a n e => ?_, (r.tb.m (oldX_some h0 hr0.nx)).w (oldX_some h0 hr0.nx) hr.nx.nt⟩, ⟨Ex.refl S, fun a u e => .inl e, fun a u e hn _ _ => ?_, fun a n e => ?_, th_upd⟩⟩
  · exact exr_upd (S := S) (r.ex a u e) (fun z => by rw [z, hs] at e; cases e)
  · by_cases ha : a = p
    · subst ha; rw [updM_same] at e; cases e; exact ⟨hs, o, upd_same, hr⟩
    · rw [updM_ne ha] at e
      obtain ⟨h1, u, h2, h3⟩ := r.mu a n e
      exact ⟨h1, u, by rw [upd_ne ha]; exact h2, h3⟩
  · rw [upd_ne (fun z => by rw [z, h] at hn; cases hn)]; exact e
  · by_cases ha : a = p
    · subst ha; exact .inl (by rw [h]; rfl)
    · rw [updM_ne ha] at e; exact .inl (by rw [e]; rfl)
/-! slots -/
structure Bs where
  S : Hp
  μ : Mem
  H : Hp
  L : Hp
  F : Addr → Option MO
def RepO (K : PySem.W.Frag) (B : Bs) (S : Hp) (μ : Mem) (H : Hp) : SL → Option V → Prop
  | .no, _ => True
  | .val d, x => ∃ v, x = some v ∧ Rep K S d v
  | .own m, x => ∃ p o, x = some (.ref p) ∧ B.H p = none ∧ S p = none ∧ μ p = none ∧ H p = some o ∧ RepM K S m o
structure Rel (K : PySem.W.Frag) (B : Bs) (S : Hp) (μ : Mem) (H : Hp) (σ : L2.St) (δ : Ss) : Prop where
  r3 : R3 K S μ H
  gr : Grow B.S B.μ B.H S μ H
  lo : Ex B.L S
  sl : ∀ (i : Nat) (s : SL), δ[i]? = some s → ∃ x, σ[i]? = some x ∧ RepO K B S μ H s x
  dj : ∀ (i j : Nat) (m n : MO), i ≠ j → δ[i]? = some (.own m) → δ[j]? = some (.own n) → σ[i]? ≠ σ[j]?
  fr : ∀ p m, B.F p = some m → ∃ o, B.H p = none ∧ S p = none ∧ μ p = none ∧ H p = some o ∧ RepM K S m o
  fd : ∀ (i : Nat) (m : MO) (p : Addr), δ[i]? = some (.own m) → σ[i]? = some (some (.ref p)) → B.F p = none
theorem RepO.grow {B : Bs} {S S' : Hp} {μ μ' : Mem} {H H' : Hp} (g : Grow S μ H S' μ' H') : ∀ (s : SL) (x : Option V), RepO K B S μ H s x → RepO K B S' μ' H' s x
  | .no, _, h => h
  | .val d, _, h => by
    obtain ⟨v, e, h⟩ := h
    exact ⟨v, e, Rep.mono g.ex d v h⟩
  | .own m, _, h => by
    obtain ⟨p, o, e, h0, h1, h2, h3, h4⟩ := h
    refine ⟨p, o, e, h0, ?_, ?_, g.kp p o h3 h2 (fun sa z => by rw [h1] at z; cases z) h4.nx.nt, RepM.mono g.ex m o h4⟩
    · cases q : S' p with
      | none => rfl
      | some u =>
        rcases g.st p u q with z | z | z | ⟨z, y⟩
        · rw [h1] at z; cases z
        · rw [h3] at z; cases z
        · rw [h2] at z; cases z
        · have := y h1 h2 o h4.nx.nt h3
          rw [← this] at z
          exact (h4.noTup z).elim
    · cases q : μ' p with
      | none => rfl
      | some u =>
        rcases g.me p u q with z | z
        · rw [h2] at z; cases z
        · rw [h3] at z; cases z
theorem Rel.grow {B : Bs} {S S' : Hp} {μ μ' : Mem} {H H' : Hp} {σ : L2.St} {δ : Ss} (r : Rel K B S μ H σ δ) (g : Grow S μ H S' μ' H') (r3 : R3 K S' μ' H') : Rel K B S' μ' H' σ δ :=
  ⟨r3, r.gr.trans g, r.lo.trans g.ex, fun i s e => by
    obtain ⟨x, e1, h1⟩ := r.sl i s e
    exact ⟨x, e1, RepO.grow g s x h1⟩, r.dj, fun p m e => by
    obtain ⟨o, h0, h1, h2, h3, h4⟩ := r.fr p m e
    have z : RepO K B S μ H (.own m) (some (.ref p)) := ⟨p, o, rfl, h0, h1, h2, h3, h4⟩
    obtain ⟨p', o', e', q⟩ := RepO.grow g (.own m) _ z
    cases e'
    exact ⟨o', q⟩, r.fd⟩
/-- a slot is given a value -/
theorem Rel.set {B : Bs} {S : Hp} {μ : Mem} {H : Hp} {σ : L2.St} {δ : Ss} (r : Rel K B S μ H σ δ) {i : Nat} {d : D} {v : V} (h : Rep K S d v) : Rel K B S μ H (σ.set i (some v)) (δ.set i (.val d)) := by
  refine ⟨r.r3, r.gr, r.lo, fun j s e => ?_, fun j k m n hjk e1 e2 => ?_, r.fr, fun j m p e1 e2 => ?_⟩
  · by_cases hj : i = j
    · subst hj
      by_cases hl : i < δ.length
      · rw [List.getElem?_set_self hl] at e
        cases e
        obtain ⟨x, e1, _⟩ := r.sl i δ[i] (by simp [hl])
        have hl2 : i < σ.length := (List.getElem?_eq_some_iff.mp e1).1
        exact ⟨some v, by rw [List.getElem?_set_self hl2], v, rfl, h⟩
      · rw [List.getElem?_eq_none (by simpa using hl)] at e; cases e
    · rw [List.getElem?_set_ne hj] at e ⊢
      exact r.sl j s e
  · have n1 : i ≠ j := fun z => by
      subst z
      by_cases hl : i < δ.length
      · rw [List.getElem?_set_self hl] at e1; cases e1
      · rw [List.getElem?_eq_none (by simpa using hl)] at e1; cases e1
    have n2 : i ≠ k := fun z => by
      subst z
      by_cases hl : i < δ.length
      · rw [List.getElem?_set_self hl] at e2; cases e2
      · rw [List.getElem?_eq_none (by simpa using hl)] at e2; cases e2
    rw [List.getElem?_set_ne n1] at e1 ⊢
    rw [List.getElem?_set_ne n2] at e2 ⊢
    exact r.dj j k m n hjk e1 e2
  · have n1 : i ≠ j := fun z => by
      subst z
      by_cases hl : i < δ.length
      · rw [List.getElem?_set_self hl] at e1; cases e1
      · rw [List.getElem?_eq_none (by simpa using hl)] at e1; cases e1
    rw [List.getElem?_set_ne n1] at e1 e2
    exact r.fd j m p e1 e2
/-- nothing more is known of a slot -/
theorem Rel.forget {B : Bs} {S : Hp} {μ : Mem} {H : Hp} {σ : L2.St} {δ : Ss} (r : Rel K B S μ H σ δ) {i : Nat} {x : Option V} : Rel K B S μ H (σ.set i x) (δ.set i .no) := by
  refine ⟨r.r3, r.gr, r.lo, fun j s e => ?_, fun j k m n hjk e1 e2 => ?_, r.fr, fun j m p e1 e2 => ?_⟩
  · by_cases hj : i = j
    · subst hj
      by_cases hl : i < δ.length
      · rw [List.getElem?_set_self hl] at e
        cases e
        obtain ⟨y, e1, _⟩ := r.sl i δ[i] (by simp [hl])
        have hl2 : i < σ.length := (List.getElem?_eq_some_iff.mp e1).1
        exact ⟨x, by rw [List.getElem?_set_self hl2], trivial⟩
      · rw [List.getElem?_eq_none (by simpa using hl)] at e; cases e
    · rw [List.getElem?_set_ne hj] at e ⊢
      exact r.sl j s e
  · have n1 : i ≠ j := fun z => by
      subst z
      by_cases hl : i < δ.length
      · rw [List.getElem?_set_self hl] at e1; cases e1
      · rw [List.getElem?_eq_none (by simpa using hl)] at e1; cases e1
    have n2 : i ≠ k := fun z => by
      subst z
      by_cases hl : i < δ.length
      · rw [List.getElem?_set_self hl] at e2; cases e2
      · rw [List.getElem?_eq_none (by simpa using hl)] at e2; cases e2
    rw [List.getElem?_set_ne n1] at e1 ⊢
    rw [List.getElem?_set_ne n2] at e2 ⊢
    exact r.dj j k m n hjk e1 e2
  · have n1 : i ≠ j := fun z => by
      subst z
      by_cases hl : i < δ.length
      · rw [List.getElem?_set_self hl] at e1; cases e1
      · rw [List.getElem?_eq_none (by simpa using hl)] at e1; cases e1
    rw [List.getElem?_set_ne n1] at e1 e2
    exact r.fd j m p e1 e2
/-- a slot's own object is changed -/
theorem Rel.write {B : Bs} {S : Hp} {μ : Mem} {H : Hp} {σ : L2.St} {δ : Ss} (r : Rel K B S μ H σ δ) {i : Nat} {p : Addr} {o : HO} {m m0 : MO} (hi : δ[i]? = some (.own m0)) (hp : σ[i]? = some (some (.ref p))) (h : RepM K S m o) : Rel K B S μ (upd H p o) σ (δ.set i (.own m)) := by
  obtain ⟨x, e1, q, u, e2, hB, hs, hm, hu, hru⟩ := r.sl i _ hi
  rw [hp] at e1
  have e3 : some (V.ref p) = x := Option.some.inj e1
  rw [← e3] at e2
  cases e2
  have r3 : R3 K S μ (upd H p o) := ⟨fun a u e => exr_upd (S := S) (r.r3.ex a u e) (fun z => by rw [z, hs] at e; cases e), fun a n e => by
    obtain ⟨h1, u, h2, h3⟩ := r.r3.mu a n e
    exact ⟨h1, u, by rw [upd_ne (fun z => by rw [z, hm] at e; cases e)]; exact h2, h3⟩, r.r3.tb.w (oldX_some hu hru.nx) h.nx.nt⟩
  have hl : i < δ.length := (List.getElem?_eq_some_iff.mp hi).1
  have g' : Grow B.S B.μ B.H S μ (upd H p o) := ⟨r.gr.ex, r.gr.st, fun a u e he hz hy => by rw [upd_ne (ne_of_none e hB)]; exact r.gr.kp a u e he hz hy, r.gr.me, fun a u e => by rw [upd_ne (ne_of_none e hB)]; exact r.gr.th a u e⟩
  have hF : B.F p = none := r.fd i m0 p hi hp
  refine ⟨r3, g', r.lo, fun j s e => ?_, fun j k m' n hjk e1 e2 => ?_, fun q n e => ?_, fun j n q e1 e2 => ?_⟩
  · by_cases hj : i = j
    · subst hj
      rw [List.getElem?_set_self hl] at e
      cases e
      exact ⟨_, hp, p, o, rfl, hB, hs, hm, upd_same, h⟩
    · rw [List.getElem?_set_ne hj] at e
      obtain ⟨y, q1, q2⟩ := r.sl j s e
      refine ⟨y, q1, ?_⟩
      cases s with
      | no => trivial
      | val d => exact q2
      | own n =>
        obtain ⟨q, w, h1, hB', h2, h3, h4, h5⟩ := q2
        refine ⟨q, w, h1, hB', h2, h3, ?_, h5⟩
        rw [upd_ne (fun z => r.dj i j _ _ hj hi e (by rw [hp, q1, h1, z]))]
        exact h4
  · by_cases hj : i = j
    · subst hj
      rw [List.getElem?_set_ne hjk] at e2
      exact r.dj i k _ _ hjk hi e2
    · rw [List.getElem?_set_ne hj] at e1
      by_cases hk : i = k
      · subst hk
        exact r.dj j i _ _ hjk e1 hi
      · rw [List.getElem?_set_ne hk] at e2
        exact r.dj j k _ _ hjk e1 e2
  · obtain ⟨o', h0, h1, h2, h3, h4⟩ := r.fr q n e
    exact ⟨o', h0, h1, h2, by rw [upd_ne (fun z => by rw [z, hF] at e; cases e)]; exact h3, h4⟩
  · by_cases hj : i = j
    · subst hj
      rw [hp] at e2
      cases e2
      exact hF
    · rw [List.getElem?_set_ne hj] at e1
      exact r.fd j n q e1 e2
def frozen : MO → D
  | .lst l => .lst l
  | .dct l => .dct l
  | .dcT l => .dcT l
  | .obj C l => .obj C l
  | .lck _ _ l => .dct l
  | .lckT _ _ l => .dcT l
theorem RepM.frozen {S : Hp} {p : Addr} {m : MO} {o : HO} (hp : S p = none) (h : RepM K S m o) : Rep K (upd S p o) (frozen m) (.ref p) := by
  have e : Ex S (upd S p o) := Ex.new hp
  cases m with
  | lst l =>
    obtain ⟨vs, rfl, h⟩ := h
    exact ⟨p, vs, rfl, upd_same, RepL.mono e _ _ h⟩
  | dct l =>
    obtain ⟨vs, rfl, h⟩ := h
    exact ⟨p, vs, rfl, .inl upd_same, RepK.mono e _ _ h⟩
  | lck od kvs l =>
    obtain ⟨rfl, h⟩ := h
    exact ⟨p, kvs, rfl, .inr ⟨od, upd_same⟩, RepK.mono e _ _ h⟩
  | lckT od kvs l =>
    obtain ⟨rfl, h⟩ := h
    exact ⟨p, kvs, rfl, .inr ⟨od, upd_same⟩, RepT.mono e _ _ h⟩
  | dcT l =>
    obtain ⟨vs, rfl, h⟩ := h
    exact ⟨p, vs, rfl, .inl upd_same, RepT.mono e _ _ h⟩
  | obj C l =>
    obtain ⟨dx, vs, rfl, h⟩ := h
    exact ⟨p, dx, vs, rfl, upd_same, RepF.mono e _ _ h⟩
theorem Rel.freeze {B : Bs} {S : Hp} {μ : Mem} {H : Hp} {σ : L2.St} {δ : Ss} (r : Rel K B S μ H σ δ) {i : Nat} {m : MO} (hi : δ[i]? = some (.own m)) :
    ∃ S' v, σ[i]? = some (some v) ∧ Ex S S' ∧ Rel K B S' μ H σ (δ.set i (.val (frozen m))) ∧ Rep K S' (frozen m) v := by
  obtain ⟨x, e1, p, o, rfl, hB, hs, hm, hu, hr⟩ := r.sl i _ hi
  have e : Ex S (upd S p o) := Ex.new hs
  have hl : i < δ.length := (List.getElem?_eq_some_iff.mp hi).1
  have hf := RepM.frozen (K := K) hs hr
  refine ⟨upd S p o, .ref p, e1, e, ⟨⟨fun a u h => ?_, fun a n h => ?_, r.r3.tb.s (oldX_some hu hr.nx)⟩, ⟨r.gr.ex.trans e, fun a u h => ?_, r.gr.kp, r.gr.me, r.gr.th⟩, r.lo.trans e, fun j s h => ?_, fun j k m' n hjk h1 h2 => ?_, fun q n z => ?_, fun j n q z1 z2 => ?_⟩, hf⟩
  · by_cases ha : a = p
    · subst ha; rw [upd_same] at h; cases h; exact .inl ⟨hu, hr.notMet⟩
    · rw [upd_ne ha] at h; exact r.r3.ex a u h
  · have ha : a ≠ p := fun z => by rw [z, hm] at h; cases h
    obtain ⟨h1, u, h2, h3⟩ := r.r3.mu a n h
    exact ⟨by rw [upd_ne ha]; exact h1, u, h2, RepM.mono e n u h3⟩
  · by_cases ha : a = p
    · subst ha; exact .inr (.inl hB)
    · rw [upd_ne ha] at h; exact r.gr.st a u h
  · by_cases hj : i = j
    · subst hj
      rw [List.getElem?_set_self hl] at h
      cases h
      exact ⟨_, e1, _, rfl, hf⟩
    · rw [List.getElem?_set_ne hj] at h
      obtain ⟨y, q1, q2⟩ := r.sl j s h
      refine ⟨y, q1, ?_⟩
      cases s with
      | no => trivial
      | val d =>
        obtain ⟨v, z1, z2⟩ := q2
        exact ⟨v, z1, Rep.mono e d v z2⟩
      | own n =>
        obtain ⟨q, w, h1, hB', h2, h3, h4, h5⟩ := q2
        refine ⟨q, w, h1, hB', ?_, h3, h4, RepM.mono e n w h5⟩
        rw [upd_ne (fun z => r.dj i j _ _ hj hi h (by rw [e1, q1, h1, z]))]
        exact h2
  · have n1 : i ≠ j := fun z => by
      subst z
      rw [List.getElem?_set_self hl] at h1; cases h1
    have n2 : i ≠ k := fun z => by
      subst z
      rw [List.getElem?_set_self hl] at h2; cases h2
    rw [List.getElem?_set_ne n1] at h1
    rw [List.getElem?_set_ne n2] at h2
    exact r.dj j k m' n hjk h1 h2
  · obtain ⟨o', h0, h1, h2, h3, h4⟩ := r.fr q n z
    exact ⟨o', h0, by rw [upd_ne (fun y => by rw [y, r.fd i m p hi e1] at z; cases z)]; exact h1, h2, h3, RepM.mono e n o' h4⟩
  · have n1 : i ≠ j := fun y => by
      subst y
      rw [List.getElem?_set_self hl] at z1; cases z1
    rw [List.getElem?_set_ne n1] at z1
    exact r.fd j n q z1 z2
theorem Rel.low {B : Bs} {S : Hp} {μ : Mem} {H : Hp} {σ : L2.St} {δ : Ss} {L : Hp} (r : Rel K B S μ H σ δ) (h : Ex L S) : Rel K { B with L := L } S μ H σ δ := ⟨r.r3, r.gr, h, r.sl, r.dj, r.fr, r.fd⟩
/-- an object that nothing else holds -/
structure Fresh (B : Bs) (S : Hp) (μ : Mem) (H : Hp) (σ : L2.St) (δ : Ss) (p : Addr) (o : HO) : Prop where
  b : B.H p = none
  s : S p = none
  m : μ p = none
  h : H p = some o
  d : ∀ (i : Nat) (m : MO), δ[i]? = some (.own m) → σ[i]? ≠ some (some (.ref p))
  f : B.F p = none
theorem Rel.fresh {B : Bs} {S : Hp} {μ : Mem} {H : Hp} {σ : L2.St} {δ : Ss} (r : Rel K B S μ H σ δ) {p : Addr} {o : HO} (hp : H p = none) (ho : notTbl o := by exact fun _ z => nomatch z) : Rel K B S μ (upd H p o) σ δ ∧ Fresh B S μ (upd H p o) σ δ p o := by
  obtain ⟨hs, hm⟩ := r.r3.free hp
  have g : Grow S μ H S μ (upd H p o) := ⟨Ex.refl S, fun _ _ e => .inl e, fun a u e _ _ _ => by rw [upd_ne (ne_of_none e hp)]; exact e, fun a n e => .inl (by rw [e]; rfl), th_upd⟩
  have r3 : R3 K S μ (upd H p o) := ⟨fun a u e => exr_upd (S := S) (r.r3.ex a u e) (fun z => by rw [z, hs] at e; cases e), fun a n e => by
    obtain ⟨h1, u, h2, h3⟩ := r.r3.mu a n e
    exact ⟨h1, u, by rw [upd_ne (ne_of_none h2 hp)]; exact h2, h3⟩, r.r3.tb.w (oldX_none hp) ho⟩
  have hB : B.H p = none := by
    cases e : B.H p with
    | none => rfl
    | some o' =>
      obtain ⟨o'', q⟩ := r.gr.th p o' e
      rw [hp] at q; cases q
  have hF : B.F p = none := by
    cases e : B.F p with
    | none => rfl
    | some m =>
      obtain ⟨o', _, _, _, h3, _⟩ := r.fr p m e
      rw [hp] at h3; cases h3
  refine ⟨r.grow g r3, hB, hs, hm, upd_same, fun i m e z => ?_, hF⟩
  obtain ⟨y, q1, q, u, q2, _, _, _, q3, _⟩ := r.sl i _ e
  rw [q1] at z
  have z1 : y = some (V.ref p) := Option.some.inj z
  have z2 := q2.symm.trans z1
  cases z2
  rw [hp] at q3; cases q3
/-- a fresh object becomes a slot's own -/
theorem Rel.ownF {B : Bs} {S : Hp} {μ : Mem} {H : Hp} {σ : L2.St} {δ : Ss} {i : Nat} {p : Addr} {o : HO} {m : MO} (r : Rel K B S μ H σ δ) (f : Fresh B S μ H σ δ p o) (h : RepM K S m o) : Rel K B S μ H (σ.set i (some (.ref p))) (δ.set i (.own m)) := by
  refine ⟨r.r3, r.gr, r.lo, fun j s e => ?_, fun j k m' n hjk e1 e2 => ?_, r.fr, fun j n q e1 e2 => ?_⟩
  · by_cases hj : i = j
    · subst hj
      by_cases hl : i < δ.length
      · rw [List.getElem?_set_self hl] at e
        cases e
        obtain ⟨y, e1, _⟩ := r.sl i δ[i] (by simp [hl])
        have hl2 : i < σ.length := (List.getElem?_eq_some_iff.mp e1).1
        exact ⟨_, by rw [List.getElem?_set_self hl2], p, o, rfl, f.b, f.s, f.m, f.h, h⟩
      · rw [List.getElem?_eq_none (by simpa using hl)] at e; cases e
    · rw [List.getElem?_set_ne hj] at e ⊢
      exact r.sl j s e
  · have inr : ∀ (x : MO), (δ.set i (.own m))[i]? = some (.own x) → (σ.set i (some (.ref p)))[i]? = some (some (.ref p)) := fun x e => by
      by_cases hl : i < δ.length
      · obtain ⟨y, e1, _⟩ := r.sl i δ[i] (by simp [hl])
        have hl2 : i < σ.length := (List.getElem?_eq_some_iff.mp e1).1
        rw [List.getElem?_set_self hl2]
      · rw [List.getElem?_eq_none (by simpa using hl)] at e; cases e
    by_cases hj : i = j
    · subst hj
      rw [inr _ e1]
      rw [List.getElem?_set_ne hjk] at e2 ⊢
      exact fun z => f.d k n e2 z.symm
    · by_cases hk : i = k
      · subst hk
        rw [inr _ e2]
        rw [List.getElem?_set_ne hj] at e1 ⊢
        exact f.d j m' e1
      · rw [List.getElem?_set_ne hj] at e1 ⊢
        rw [List.getElem?_set_ne hk] at e2 ⊢
        exact r.dj j k m' n hjk e1 e2
  · by_cases hj : i = j
    · subst hj
      by_cases hl : i < δ.length
      · obtain ⟨y, e3, _⟩ := r.sl i δ[i] (by simp [hl])
        have hl2 : i < σ.length := (List.getElem?_eq_some_iff.mp e3).1
        rw [List.getElem?_set_self hl2] at e2
        cases e2
        exact f.f
      · rw [List.getElem?_eq_none (by simpa using hl)] at e1; cases e1
    · rw [List.getElem?_set_ne hj] at e1 e2
      exact r.fd j n q e1 e2
/-- a fresh object is frozen -/
theorem Rel.iceF {B : Bs} {S : Hp} {μ : Mem} {H : Hp} {σ : L2.St} {δ : Ss} {p : Addr} {o : HO} {m : MO} (r : Rel K B S μ H σ δ) (f : Fresh B S μ H σ δ p o) (hm : RepM K S m o) : Ex S (upd S p o) ∧ Rel K B (upd S p o) μ H σ δ ∧ Rep K (upd S p o) (frozen m) (.ref p) := by
  have e : Ex S (upd S p o) := Ex.new f.s
  refine ⟨e, ⟨⟨fun a u h => ?_, fun a n h => ?_, r.r3.tb.s (oldX_some f.h hm.nx)⟩, ⟨r.gr.ex.trans e, fun a u h => ?_, r.gr.kp, r.gr.me, r.gr.th⟩, r.lo.trans e, fun j s h => ?_, r.dj, fun q n z => ?_, r.fd⟩, RepM.frozen f.s hm⟩
  · by_cases ha : a = p
    · subst ha; rw [upd_same] at h; cases h; exact .inl ⟨f.h, hm.notMet⟩
    · rw [upd_ne ha] at h; exact r.r3.ex a u h
  · have ha : a ≠ p := fun z => by rw [z, f.m] at h; cases h
    obtain ⟨h1, u, h2, h3⟩ := r.r3.mu a n h
    exact ⟨by rw [upd_ne ha]; exact h1, u, h2, RepM.mono e n u h3⟩
  · by_cases ha : a = p
    · subst ha; exact .inr (.inl f.b)
    · rw [upd_ne ha] at h; exact r.gr.st a u h
  · obtain ⟨y, q1, q2⟩ := r.sl j s h
    refine ⟨y, q1, ?_⟩
    cases s with
    | no => trivial
    | val d =>
      obtain ⟨v, z1, z2⟩ := q2
      exact ⟨v, z1, Rep.mono e d v z2⟩
    | own n =>
      obtain ⟨q, w, h1, hB', h2, h3, h4, h5⟩ := q2
      refine ⟨q, w, h1, hB', ?_, h3, h4, RepM.mono e n w h5⟩
      rw [upd_ne (fun z => f.d j n h (by rw [q1, h1, z]))]
      exact h2
  · obtain ⟨o', h0, h1, h2, h3, h4⟩ := r.fr q n z
    exact ⟨o', h0, by rw [upd_ne (fun y => by rw [y, f.f] at z; cases z)]; exact h1, h2, h3, RepM.mono e n o' h4⟩
def updF (F : Addr → Option MO) (a : Addr) (m : MO) : Addr → Option MO := fun b => if b = a then some m else F b
/-- a fresh object is put aside: nothing touches it -/
theorem Rel.aside {B : Bs} {S : Hp} {μ : Mem} {H : Hp} {σ : L2.St} {δ : Ss} {p : Addr} {o : HO} {m : MO} (r : Rel K B S μ H σ δ) (f : Fresh B S μ H σ δ p o) (h : RepM K S m o) : Rel K { B with F := updF B.F p m } S μ H σ δ := by
  refine ⟨r.r3, r.gr, r.lo, r.sl, r.dj, fun q n e => ?_, fun i n q e1 e2 => ?_⟩
  · by_cases hq : q = p
    · subst hq
      have e : updF B.F q m q = some n := e
      unfold updF at e
      rw [if_pos rfl] at e
      cases e
      exact ⟨o, f.b, f.s, f.m, f.h, h⟩
    · have e : updF B.F p m q = some n := e
      unfold updF at e
      rw [if_neg hq] at e
      exact r.fr q n e
  · have hq : q ≠ p := fun z => by
      subst z
      exact f.d i n e1 e2
    show updF B.F p m q = none
    unfold updF
    rw [if_neg hq]
    exact r.fd i n q e1 e2
/-- .. and taken again -/
theorem Rel.again {B : Bs} {S : Hp} {μ : Mem} {H : Hp} {σ : L2.St} {δ : Ss} {p : Addr} {m : MO} (hn : B.F p = none) (r : Rel K { B with F := updF B.F p m } S μ H σ δ) : Rel K B S μ H σ δ ∧ ∃ o, Fresh B S μ H σ δ p o ∧ RepM K S m o := by
  refine ⟨⟨r.r3, r.gr, r.lo, r.sl, r.dj, fun q n e => ?_, fun i n q e1 e2 => ?_⟩, ?_⟩
  · have hq : q ≠ p := fun z => by rw [z, hn] at e; cases e
    exact r.fr q n (by show updF B.F p m q = some n; unfold updF; rw [if_neg hq]; exact e)
  · have z : updF B.F p m q = none := r.fd i n q e1 e2
    unfold updF at z
    by_cases hq : q = p
    · rw [hq]; exact hn
    · rw [if_neg hq] at z; exact z
  · obtain ⟨o, h0, h1, h2, h3, h4⟩ := r.fr p m (by show updF B.F p m p = some m; unfold updF; rw [if_pos rfl])
    refine ⟨o, ⟨h0, h1, h2, h3, fun i n e z => ?_, hn⟩, h4⟩
    have y : updF B.F p m p = none := r.fd i n p e z
    unfold updF at y
    rw [if_pos rfl] at y
    cases y
/-- a fresh object is changed -/
theorem Rel.writeF {B : Bs} {S : Hp} {μ : Mem} {H : Hp} {σ : L2.St} {δ : Ss} {p : Addr} {o o' : HO} (r : Rel K B S μ H σ δ) (f : Fresh B S μ H σ δ p o) (ho : NX o) (ho' : NX o' := by trivial) : Rel K B S μ (upd H p o') σ δ ∧ Fresh B S μ (upd H p o') σ δ p o' := by
  have ne : ∀ a, (∃ u, B.H a = some u) → a ≠ p := fun a ⟨u, e⟩ z => by rw [z, f.b] at e; cases e
  refine ⟨⟨⟨fun a u e => ?_, fun a n e => ?_, r.r3.tb.w (oldX_some f.h ho) ho'.nt⟩, ⟨r.gr.ex, r.gr.st, fun a u e he hz hy => by rw [upd_ne (ne a ⟨u, e⟩)]; exact r.gr.kp a u e he hz hy, r.gr.me, fun a u e => by rw [upd_ne (ne a ⟨u, e⟩)]; exact r.gr.th a u e⟩, r.lo, fun i s e => ?_, r.dj, fun q n e => ?_, r.fd⟩, ⟨f.b, f.s, f.m, upd_same, f.d, f.f⟩⟩
  · exact exr_upd (S := S) (r.r3.ex a u e) (fun z => by rw [z, f.s] at e; cases e)
  · obtain ⟨h1, u, h2, h3⟩ := r.r3.mu a n e
    exact ⟨h1, u, by rw [upd_ne (fun z => by rw [z, f.m] at e; cases e)]; exact h2, h3⟩
  · obtain ⟨y, q1, q2⟩ := r.sl i s e
    refine ⟨y, q1, ?_⟩
    cases s with
    | no => trivial
    | val d => exact q2
    | own n =>
      obtain ⟨q, w, h1, hB', h2, h3, h4, h5⟩ := q2
      refine ⟨q, w, h1, hB', h2, h3, ?_, h5⟩
      rw [upd_ne (fun z => f.d i n e (by rw [q1, h1, z]))]
      exact h4
  · obtain ⟨u, h0, h1, h2, h3, h4⟩ := r.fr q n e
    exact ⟨u, h0, h1, h2, by rw [upd_ne (fun z => by rw [z, f.f] at e; cases e)]; exact h3, h4⟩
/-- a new draw -/
theorem R3.drwNew {S : Hp} {μ : Mem} {H : Hp} (r : R3 K S μ H) {p sa : Addr} (h : H p = none) : R3 K (upd S p (.met sa sa)) μ (upd H p (.lst [.ref sa, .int 0])) ∧ Grow S μ H (upd S p (.met sa sa)) μ (upd H p (.lst [.ref sa, .int 0])) := by
  obtain ⟨hs, hm⟩ := r.free h
  refine ⟨⟨fun a u e => ?_, fun a m e => ?_, (r.tb.s (oldX_none h)).w (oldX_none h) (fun _ z => nomatch z)⟩, ⟨Ex.new hs, fun a u e => ?_, fun a u e _ _ _ => ?_, fun a m e => .inl (by rw [e]; rfl), th_upd⟩⟩
  · by_cases ha : a = p
    · subst ha; rw [upd_same] at e; cases e; exact .inr (.inr ⟨sa, 0, rfl, upd_same, Int.le_refl 0⟩)
    · rw [upd_ne ha] at e; exact exr_upd (S := S) (r.ex a u e) ha
  · have ha : a ≠ p := fun z => by rw [z, hm] at e; cases e
    obtain ⟨h1, u, h2, h3⟩ := r.mu a m e
    exact ⟨by rw [upd_ne ha]; exact h1, u, by rw [upd_ne ha]; exact h2, RepM.mono (Ex.new hs) m u h3⟩
  · by_cases ha : a = p
    · subst ha; exact .inr (.inl h)
    · rw [upd_ne ha] at e; exact .inl e
  · rw [upd_ne (ne_of_none e h)]; exact e
/-- one more is drawn -/
theorem R3.drwSet {S : Hp} {μ : Mem} {H : Hp} (r : R3 K S μ H) {p sa : Addr} {n : Int} (h : S p = some (.met sa sa)) (hn : 0 ≤ n) : R3 K S μ (upd H p (.lst [.ref sa, .int n])) ∧ Grow S μ H S μ (upd H p (.lst [.ref sa, .int n])) := by
  obtain ⟨n0, hl0, _⟩ := r.ex.drw h
  refine ⟨⟨fun a u e => ?_, fun a m e => ?_, r.tb.w (oldX_some hl0 trivial) (fun _ z => nomatch z)⟩, ⟨Ex.refl S, fun a u e => .inl e, fun a u e _ hz _ => ?_, fun a m e => .inl (by rw [e]; rfl), th_upd⟩⟩
  · by_cases ha : a = p
    · subst ha; rw [h] at e; cases e; exact .inr (.inr ⟨sa, n, rfl, upd_same, hn⟩)
    · exact exr_upd (S := S) (r.ex a u e) ha
  · obtain ⟨h1, u, h2, h3⟩ := r.mu a m e
    have ha : a ≠ p := fun z => by rw [z, h] at h1; cases h1
    exact ⟨h1, u, by rw [upd_ne ha]; exact h2, h3⟩
  · rw [upd_ne (fun z => hz sa (by rw [z]; exact h))]; exact e
/-- the same base -/
structure SameB (Z B : Bs) : Prop where
  s : B.S = Z.S
  m : B.μ = Z.μ
  h : B.H = Z.H
  l : Ex Z.L B.L
  f : ∀ p m, Z.F p = some m → B.F p = some m
theorem SameB.refl (Z : Bs) : SameB Z Z := ⟨rfl, rfl, rfl, Ex.refl _, fun _ _ h => h⟩
theorem SameB.trans {A B C : Bs} (a : SameB A B) (b : SameB B C) : SameB A C := ⟨b.s.trans a.s, b.m.trans a.m, b.h.trans a.h, a.l.trans b.l, fun p m h => b.f p m (a.f p m h)⟩
theorem SameB.low {Z B : Bs} (a : SameB Z B) {L : Hp} (h : Ex B.L L) : SameB Z { B with L := L } := ⟨a.s, a.m, a.h, a.l.trans h, a.f⟩
theorem SameB.aside {Z B : Bs} (a : SameB Z B) {p : Addr} {m : MO} (h : B.F p = none) : SameB Z { B with F := updF B.F p m } := ⟨a.s, a.m, a.h, a.l, fun q n e => by
  have z := a.f q n e
  show updF B.F p m q = some n
  unfold updF
  rw [if_neg (fun y => by rw [y, h] at z; cases z)]
  exact z⟩
theorem RepO.base {Z B : Bs} {S : Hp} {μ : Mem} {H : Hp} (e : B.H = Z.H) : ∀ {s : SL} {x : Option V}, RepO K B S μ H s x → RepO K Z S μ H s x
  | .no, _, h => h
  | .val d, _, h => h
  | .own m, _, h => by
    obtain ⟨p, o, h1, h2, h3⟩ := h
    exact ⟨p, o, h1, e ▸ h2, h3⟩
theorem Rel.back {Z B : Bs} {S : Hp} {μ : Mem} {H : Hp} {σ : L2.St} {δ : Ss} (r : Rel K B S μ H σ δ) (a : SameB Z B) : Rel K Z S μ H σ δ := by
  refine ⟨r.r3, ?_, a.l.trans r.lo, fun i s e => ?_, r.dj, fun p m e => ?_, fun i m p e1 e2 => ?_⟩
  · have g := r.gr
    rw [a.s, a.m, a.h] at g
    exact g
  · obtain ⟨x, e1, h⟩ := r.sl i s e
    exact ⟨x, e1, RepO.base a.h h⟩
  · obtain ⟨o, h⟩ := r.fr p m (a.f p m e)
    rw [a.h] at h
    exact ⟨o, h⟩
  · have z := r.fd i m p e1 e2
    cases q : Z.F p with
    | none => rfl
    | some n => rw [a.f p n q] at z; cases z
end Dl
namespace Dl
open PySem L2
abbrev QE := D → Ss → Mem → Prop
abbrev DE := Ss → Mem → QE → Prop
abbrev DT := Ss → Mem → (Bool → Ss → Mem → Prop) → Prop
abbrev DA := Ss → Mem → (List D → Ss → Mem → Prop) → Prop
abbrev DO := Ss → Mem → (Option Int → Ss → Mem → Prop) → Prop
abbrev QM := D → Mem → Prop
abbrev DR := D → D → Mem → QM → Prop
abbrev DC := List D → Mem → QM → Prop
abbrev XF := Option (List (Str × D))
abbrev DX := Str → XF → Mem → Prop
abbrev DXW := Str → XF → Ss → Mem → Prop
structure DEnds where
  nx : Ss → Mem → Prop
  rt : QM
  bk : Ss → Mem → Prop := fun _ _ => False
  ct : Ss → Mem → Prop := fun _ _ => False
abbrev DS := DEnds → Ss → Mem → Prop
structure Lift (K : PySem.W.Frag) (B : Bs) (D : Ends) (DD : DEnds) : Prop where
  nx : ∀ S μ H σ δ, Rel K B S μ H σ δ → DD.nx δ μ → D.nx σ H
  rt : ∀ S μ H v d, R3 K S μ H → Grow B.S B.μ B.H S μ H → Rep K S d v → DD.rt d μ → D.rt v H
  bk : ∀ S μ H σ δ, Rel K B S μ H σ δ → DD.bk δ μ → D.bk σ H
  ct : ∀ S μ H σ δ, Rel K B S μ H σ δ → DD.ct δ μ → D.ct σ H
def SimE (K : PySem.W.Frag) (Z : Bs) (te : TE) (de : DE) : Prop := ∀ (B : Bs) (_ : SameB Z B) (S : Hp) (μ : Mem) (H : Hp) (σ : L2.St) (δ : Ss) (Q : VK) (QD : QE), Rel K B S μ H σ δ →
  (∀ S' μ' H' δ' v d, Ex S S' → Rel K B S' μ' H' σ δ' → Rep K S' d v → QD d δ' μ' → Q v H') → de δ μ QD → te σ H Q
def SimT (K : PySem.W.Frag) (Z : Bs) (te : TT) (de : DT) : Prop := ∀ (B : Bs) (_ : SameB Z B) (S : Hp) (μ : Mem) (H : Hp) (σ : L2.St) (δ : Ss) (Q : Bool → Hp → Prop) (QD : Bool → Ss → Mem → Prop), Rel K B S μ H σ δ →
  (∀ S' μ' H' δ' b, Ex S S' → Rel K B S' μ' H' σ δ' → QD b δ' μ' → Q b H') → de δ μ QD → te σ H Q
def SimA (K : PySem.W.Frag) (Z : Bs) (te : TA) (de : DA) : Prop := ∀ (B : Bs) (_ : SameB Z B) (S : Hp) (μ : Mem) (H : Hp) (σ : L2.St) (δ : Ss) (Q : List V → Hp → Prop) (QD : List D → Ss → Mem → Prop), Rel K B S μ H σ δ →
  (∀ S' μ' H' δ' vs ds, Ex S S' → Rel K B S' μ' H' σ δ' → RepL K S' ds vs → QD ds δ' μ' → Q vs H') → de δ μ QD → te σ H Q
def SimO (K : PySem.W.Frag) (Z : Bs) (te : TO) (de : DO) : Prop := ∀ (B : Bs) (_ : SameB Z B) (S : Hp) (μ : Mem) (H : Hp) (σ : L2.St) (δ : Ss) (Q : Option Int → Hp → Prop) (QD : Option Int → Ss → Mem → Prop), Rel K B S μ H σ δ →
  (∀ S' μ' H' δ' b, Ex S S' → Rel K B S' μ' H' σ δ' → QD b δ' μ' → Q b H') → de δ μ QD → te σ H Q
def SimS (K : PySem.W.Frag) (Z : Bs) (ts : TS) (ds : DS) : Prop := ∀ (B : Bs) (_ : SameB Z B) (S : Hp) (μ : Mem) (H : Hp) (σ : L2.St) (δ : Ss) (E : Ends) (DD : DEnds), Rel K B S μ H σ δ → Lift K B E DD → ds DD δ μ → ts E σ H
abbrev DG := D → Ss → Mem → (Ss → Mem → Prop) → Prop
def SimG (K : PySem.W.Frag) (Z : Bs) (g : TG) (dg : DG) : Prop := ∀ (B : Bs) (_ : SameB Z B) (S : Hp) (μ : Mem) (H : Hp) (σ : L2.St) (δ : Ss) (v : V) (d : D) (Q : L2.St → Hp → Prop) (QD : Ss → Mem → Prop), Rel K B S μ H σ δ → Rep K S d v →
  (∀ S' μ' H' σ' δ', Ex S S' → Rel K B S' μ' H' σ' δ' → QD δ' μ' → Q σ' H') → dg d δ μ QD → g v σ H Q
abbrev DGs := List D → Ss → Mem → (Ss → Mem → Prop) → Prop
def SimGs (K : PySem.W.Frag) (Z : Bs) (g : TGs) (dg : DGs) : Prop := ∀ (B : Bs) (_ : SameB Z B) (S : Hp) (μ : Mem) (H : Hp) (σ : L2.St) (δ : Ss) (v : List V) (d : List D) (Q : L2.St → Hp → Prop) (QD : Ss → Mem → Prop), Rel K B S μ H σ δ → RepL K S d v →
  (∀ S' μ' H' σ' δ', Ex S S' → Rel K B S' μ' H' σ' δ' → QD δ' μ' → Q σ' H') → dg d δ μ QD → g v σ H Q
/-- what a walk yields, while G holds of the memory -/
structure Wk (K : PySem.W.Frag) (S0 : Hp) (J : It) (ds : List D) (G : Mem → Prop) : Prop where
  goes : ∀ S μ H i, Ex S0 S → R3 K S μ H → G μ → i < ds.length → J.go i H
  stops : ∀ S μ H, Ex S0 S → R3 K S μ H → G μ → J.stop ds.length H
  yields : ∀ S μ H i d x H', Ex S0 S → R3 K S μ H → G μ → ds[i]? = some d → J.yld i H x H' → ∃ S', Grow S μ H S' μ H' ∧ R3 K S' μ H' ∧ Rep K S' d x
abbrev DI := Ss → Mem → (List D → (Mem → Prop) → Ss → Mem → Prop) → Prop
def SimI (K : PySem.W.Frag) (Z : Bs) (wi : TI) (di : DI) : Prop := ∀ (B : Bs) (_ : SameB Z B) (S : Hp) (μ : Mem) (H : Hp) (σ : L2.St) (δ : Ss) (Q : It → Hp → Prop) (QD : List D → (Mem → Prop) → Ss → Mem → Prop), Rel K B S μ H σ δ →
  (∀ S' μ' H' δ' J ds G, Ex S S' → Rel K B S' μ' H' σ δ' → Wk K S' J ds G → QD ds G δ' μ' → Q J H') → di δ μ QD → wi σ H Q
def SimR (K : PySem.W.Frag) (r : R2) (dr : DR) : Prop := ∀ (S : Hp) (μ : Mem) (H : Hp) (x y : V) (dx dy : D) (Q : VK) (QD : QM), R3 K S μ H → Rep K S dx x → Rep K S dy y →
  (∀ S' μ' H' v d, Grow S μ H S' μ' H' → R3 K S' μ' H' → Rep K S' d v → QD d μ' → Q v H') → dr dx dy μ QD → r x y H Q
def SimC (K : PySem.W.Frag) (r : List V → Hp → VK → Prop) (dr : DC) : Prop := ∀ (S : Hp) (μ : Mem) (H : Hp) (xs : List V) (ds : List D) (Q : VK) (QD : QM), R3 K S μ H → RepL K S ds xs →
  (∀ S' μ' H' v d, Grow S μ H S' μ' H' → R3 K S' μ' H' → Rep K S' d v → QD d μ' → Q v H') → dr ds μ QD → r xs H Q
structure PD (K : PySem.W.Frag) (Z : Bs) (X : Cx) (e : Expr) (te : TE) (de : DE) : Prop where
  p : PE X e te
  s : SimE K Z te de
structure PDT (K : PySem.W.Frag) (Z : Bs) (X : Cx) (e : Expr) (te : TT) (de : DT) : Prop where
  p : PT X e te
  s : SimT K Z te de
structure PDA (K : PySem.W.Frag) (Z : Bs) (X : Cx) (e : List Expr) (te : TA) (de : DA) : Prop where
  p : PA X e te
  s : SimA K Z te de
structure PDO (K : PySem.W.Frag) (Z : Bs) (X : Cx) (e : Option Expr) (te : TO) (de : DO) : Prop where
  p : PO X e te
  s : SimO K Z te de
structure PDS (K : PySem.W.Frag) (Z : Bs) (X : Cx) (e : Stmt) (te : TS) (de : DS) : Prop where
  p : PS X e te
  s : SimS K Z te de
structure PDSs (K : PySem.W.Frag) (Z : Bs) (X : Cx) (e : List Stmt) (te : TS) (de : DS) : Prop where
  p : PSs X e te
  s : SimS K Z te de
structure PDG (K : PySem.W.Frag) (Z : Bs) (X : Cx) (e : Expr) (g : TG) (dg : DG) : Prop where
  p : PG X e g
  s : SimG K Z g dg
structure PDGs (K : PySem.W.Frag) (Z : Bs) (X : Cx) (e : List Expr) (g : TGs) (dg : DGs) : Prop where
  p : PGs X e g
  s : SimGs K Z g dg
structure PDI (K : PySem.W.Frag) (Z : Bs) (X : Cx) (tg e : Expr) (wi : TI) (di : DI) : Prop where
  p : PI X tg e wi
  s : SimI K Z wi di
structure PDOp (K : PySem.W.Frag) (X : Cx) (f : Value → Value → Sem Value) (r : R2) (dr : DR) : Prop where
  p : OpR X f r
  s : SimR K r dr
structure PDC (K : PySem.W.Frag) (X : Cx) (f : Value) (r : List V → Hp → VK → Prop) (dr : DC) : Prop where
  p : CallR X f r
  s : SimC K r dr
variable {X : Cx} {K : PySem.W.Frag} {Z : Bs}
/-! ### lemmas on Rep -/
theorem exr_l {S H : Hp} {a : Addr} {xs : List V} (e : ExR S H) (h : SqL K S a xs) : SqL K H a xs := by
  rcases h with (h | ⟨o, h⟩) | h
  · rcases e.at h trivial with q | ⟨q, _⟩
    · exact .inl (.inl q)
    · exact q.elim
  · rcases e.at h trivial with q | ⟨q, _⟩
    · exact .inl (.inr ⟨o, q⟩)
    · exact q.elim
  · exact .inr h
theorem exr_t {S H : Hp} {a : Addr} {xs : List V} (e : ExR S H) (h : SqT K S a xs) : SqT K H a xs := by
  rcases h with (h | ⟨o, h⟩) | h
  · rcases e.at h trivial with q | ⟨q, _⟩
    · exact .inl (.inl q)
    · exact q.elim
  · rcases e.at h trivial with q | ⟨q, _⟩
    · exact .inl (.inr ⟨o, q⟩)
    · exact q.elim
  · exact .inr h
theorem exr_lst {S H : Hp} {a : Addr} {xs : List V} (e : ExR S H) (h : S a = some (.lst xs)) : H a = some (.lst xs) := by
  rcases e.at h trivial with q | ⟨q, _⟩
  · exact q
  · exact q.elim
theorem exr_ins {S H : Hp} {a C dx : Addr} {fs : List (Str × V)} (e : ExR S H) (h : S a = some (.ins C dx fs)) : H a = some (.ins C dx fs) := by
  rcases e.at h trivial with q | ⟨q, _⟩
  · exact q
  · exact q.elim
theorem exr_rd {S H : Hp} {a : Addr} {u : HO} (e : ExR S H) (h : Rd S a u) (hn : notMet u := by trivial) : Rd H a u := by
  rcases h with h | ⟨o, h⟩
  · rcases e.at h hn with q | ⟨_, q⟩
    · exact .inl q
    · exact .inr q
  · rcases e.at h trivial with q | ⟨q, _⟩
    · exact .inr ⟨o, q⟩
    · exact q.elim
/-! ### expressions -/
def dVar (i : Nat) : DE := fun δ μ Q => ∃ d, δ[i]? = some (.val d) ∧ Q d δ μ
/-- a name whose object is the slot's own: it is frozen by the reading -/
def dVarF (i : Nat) : DE := fun δ μ Q => ∃ m, δ[i]? = some (.own m) ∧ Q (frozen m) (δ.set i (.val (frozen m))) μ
theorem Rel.var {B : Bs} {S : Hp} {μ : Mem} {H : Hp} {σ : L2.St} {δ : Ss} (r : Rel K B S μ H σ δ) {i : Nat} {d : D} (h : δ[i]? = some (.val d)) : ∃ v, σ[i]? = some (some v) ∧ Rep K S d v := by
  obtain ⟨x, e1, v, rfl, h1⟩ := r.sl i _ h
  exact ⟨v, e1, h1⟩
theorem d_var (i : Nat) {x : Str} {pos : Pos} (hN : X.N[i]? = some x := by rfl) (hv : Vis X.env.scope x := by first | exact Or.inl rfl | exact Or.inr (Or.inl rfl) | exact Or.inr (Or.inr rfl)) (hd : (x == ("__debug__" : Str)) = false := by decide) (hcd : (x == ("__classdict__" : Str)) = false := by decide) :
    PD K Z X (.Name x pos) (tVar i) (dVar i) := ⟨pe_var hN hv hd hcd, fun B hB S μ H σ δ Q QD r k h => by
  obtain ⟨d, e, q⟩ := h
  obtain ⟨v, e1, h1⟩ := r.var e
  exact ⟨v, e1, k S μ H δ v d (Ex.refl S) r h1 q⟩⟩
theorem d_varF (i : Nat) {x : Str} {pos : Pos} (hN : X.N[i]? = some x := by rfl) (hv : Vis X.env.scope x := by first | exact Or.inl rfl | exact Or.inr (Or.inl rfl) | exact Or.inr (Or.inr rfl)) (hd : (x == ("__debug__" : Str)) = false := by decide) (hcd : (x == ("__classdict__" : Str)) = false := by decide) :
    PD K Z X (.Name x pos) (tVar i) (dVarF i) := ⟨pe_var hN hv hd hcd, fun B hB S μ H σ δ Q QD r k h => by
  obtain ⟨m, e, q⟩ := h
  obtain ⟨S', v, e1, x1, r1, h1⟩ := r.freeze e
  exact ⟨v, e1, k S' μ H _ v _ x1 r1 h1 q⟩⟩
def dC (d : D) : DE := fun δ μ Q => Q d δ μ
theorem simC {v : V} {d : D} (h : ∀ S, Rep K S d v) : SimE K Z (tC v) (dC d) := fun B hB S μ H σ δ Q QD r k q => k S μ H δ v d (Ex.refl S) r (h S) q
theorem d_int {i j pos} : PD K Z X (.Constant (.int i) j pos) (tC (.int i)) (dC (.int i)) := ⟨pe_int, simC fun _ => rfl⟩
theorem d_bl {b j pos} : PD K Z X (.Constant (.bool b) j pos) (tC (.bl b)) (dC (.bl b)) := ⟨pe_bl, simC fun _ => rfl⟩
theorem d_non {j pos} : PD K Z X (.Constant .none j pos) (tC .non) (dC .non) := ⟨pe_non, simC fun _ => rfl⟩
theorem d_str {x j pos} : PD K Z X (.Constant (.str x) j pos) (tC (.str x)) (dC (.str x)) := ⟨pe_str, simC fun _ => rfl⟩
theorem d_globI {x : Str} {pos : Pos} {i : Int} {u : Value} (hg : Gl X x) (hm : X.mg x = some u) (r : RelV (.int i) u) (hd : (x == ("__debug__" : Str)) = false := by decide) : PD K Z X (.Name x pos) (tC (.int i)) (dC (.int i)) := ⟨pe_glob hg hm r hd, simC fun _ => rfl⟩
theorem d_bltn {x : Str} {pos : Pos} {n : String} (hg : Gl X x) (hm : X.mg x = none) (hv : bootBuiltins x = some (.type n)) (hn : x ≠ "__name__" := by decide) (hd : (x == ("__debug__" : Str)) = false := by decide) : PD K Z X (.Name x pos) (tC (.ty n)) (dC (.ty n)) := ⟨pe_bltn hg hm hv rfl hn hd, simC fun _ => rfl⟩
def dOp (dr : DR) (da db : DE) : DE := fun δ μ Q => da δ μ fun x δ1 μ1 => db δ1 μ1 fun y δ2 μ2 => dr x y μ2 fun d μ3 => Q d δ2 μ3
theorem simOp {r : R2} {dr : DR} {ta tb : TE} {da db : DE} (hr : SimR K r dr) (ha : SimE K Z ta da) (hb : SimE K Z tb db) : SimE K Z (tOp r ta tb) (dOp dr da db) := fun B hB S μ H σ δ Q QD rl k h => by
  refine ha B hB S μ H σ δ _ _ rl (fun S1 μ1 H1 δ1 x dx e1 r1 h1 q1 => ?_) h
  refine hb B hB S1 μ1 H1 σ δ1 _ _ r1 (fun S2 μ2 H2 δ2 y dy e2 r2 h2 q2 => ?_) q1
  refine hr S2 μ2 H2 x y dx dy _ _ r2.r3 (Rep.mono e2 _ _ h1) h2 (fun S3 μ3 H3 v d g r3 h3 q3 => ?_) q2
  exact k S3 μ3 H3 δ2 v d ((e1.trans e2).trans g.ex) (r2.grow g r3) h3 q3
theorem d_op {op : Operator} {a b : Expr} {pos : Pos} {r : R2} {dr : DR} {ta tb : TE} {da db : DE} (ho : PDOp K X (binaryOp op) r dr) (ha : PD K Z X a ta da) (hb : PD K Z X b tb db) : PD K Z X (.BinOp a op b pos) (tOp r ta tb) (dOp dr da db) :=
  ⟨pe_op ho.p ha.p hb.p, simOp ho.s ha.s hb.s⟩
theorem d_cmp {op : CmpOp} {a b : Expr} {pos : Pos} {r : R2} {dr : DR} {ta tb : TE} {da db : DE} (ho : PDOp K X (compareOp op) r dr) (ha : PD K Z X a ta da) (hb : PD K Z X b tb db) (hm : behindInMarks op b = false := by rfl) : PD K Z X (.Compare a [op] [b] pos) (tOp r ta tb) (dOp dr da db) :=
  ⟨pe_cmpR ho.p ha.p hb.p hm, simOp ho.s ha.s hb.s⟩
def dTest (de : DE) : DT := fun δ μ Q => de δ μ fun d δ1 μ1 => ∃ b, d = .bl b ∧ Q b δ1 μ1
theorem simTest {te : TE} {de : DE} (h : SimE K Z te de) : SimT K Z (tTest te) (dTest de) := fun B hB S μ H σ δ Q QD rl k q => by
  refine h B hB S μ H σ δ _ _ rl (fun S1 μ1 H1 δ1 x dx e1 r1 h1 q1 => ?_) q
  obtain ⟨b, rfl, q1⟩ := q1
  exact ⟨b, h1, k S1 μ1 H1 δ1 b e1 r1 q1⟩
theorem simB {te : TE} {de : DE} (h : SimE K Z te de) : SimT K Z (tB te) (dTest de) := fun B hB S μ H σ δ Q QD rl k q => by
  refine h B hB S μ H σ δ _ _ rl (fun S1 μ1 H1 δ1 x dx e1 r1 h1 q1 => ?_) q
  obtain ⟨b, rfl, q1⟩ := q1
  exact ⟨b, h1, k S1 μ1 H1 δ1 b e1 r1 q1⟩
theorem t_cmp {op : CmpOp} {a b : Expr} {pos : Pos} {r : R2} {dr : DR} {ta tb : TE} {da db : DE} (ho : PDOp K X (compareOp op) r dr) (ha : PD K Z X a ta da) (hb : PD K Z X b tb db) (hm : behindInMarks op b = false := by rfl) : PDT K Z X (.Compare a [op] [b] pos) (tTest (tOp r ta tb)) (dTest (dOp dr da db)) :=
  ⟨pt_cmpR ho.p ha.p hb.p hm, simTest (simOp ho.s ha.s hb.s)⟩
def dChain (r r' : DR) (da db dc : DE) : DE := fun δ μ Q => da δ μ fun x δ1 μ1 => db δ1 μ1 fun y δ2 μ2 => r x y μ2 fun z μ3 => ∃ k, z = .bl k ∧
  (if k = true then dc δ2 μ3 fun w δ4 μ4 => r' y w μ4 fun d μ5 => Q d δ4 μ5 else Q (.bl false) δ2 μ3)
theorem simChain {r r' : R2} {dr dr' : DR} {ta tb tc : TE} {da db dc : DE} (hr : SimR K r dr) (hr' : SimR K r' dr') (ha : SimE K Z ta da) (hb : SimE K Z tb db) (hc : SimE K Z tc dc) : SimE K Z (tChain r r' ta tb tc) (dChain dr dr' da db dc) := fun B hB S μ H σ δ Q QD rl k h => by
  refine ha B hB S μ H σ δ _ _ rl (fun S1 μ1 H1 δ1 x dx e1 r1 h1 q1 => ?_) h
  refine hb B hB S1 μ1 H1 σ δ1 _ _ r1 (fun S2 μ2 H2 δ2 y dy e2 r2 h2 q2 => ?_) q1
  refine hr S2 μ2 H2 x y dx dy _ _ r2.r3 (Rep.mono e2 _ _ h1) h2 (fun S3 μ3 H3 v d g r3 h3 q3 => ?_) q2
  obtain ⟨b, rfl, q3⟩ := q3
  refine ⟨b, h3, ?_⟩
  have r3' := r2.grow g r3
  cases b with
  | false =>
    rw [if_neg Bool.false_ne_true] at q3 ⊢
    exact k S3 μ3 H3 δ2 _ (.bl false) ((e1.trans e2).trans g.ex) r3' rfl q3
  | true =>
    rw [if_pos rfl] at q3 ⊢
    refine hc B hB S3 μ3 H3 σ δ2 _ _ r3' (fun S4 μ4 H4 δ4 w dw e4 r4 h4 q4 => ?_) q3
    refine hr' S4 μ4 H4 y w dy dw _ _ r4.r3 (Rep.mono (g.ex.trans e4) _ _ h2) h4 (fun S5 μ5 H5 v d g5 r5 h5 q5 => ?_) q4
    exact k S5 μ5 H5 δ4 v d ((((e1.trans e2).trans g.ex).trans e4).trans g5.ex) (r4.grow g5 r5) h5 q5
theorem d_chain {op op' : CmpOp} {a b c : Expr} {pos : Pos} {r r' : R2} {dr dr' : DR} {ta tb tc : TE} {da db dc : DE} (ho : PDOp K X (compareOp op) r dr) (ho' : PDOp K X (compareOp op') r' dr') (ha : PD K Z X a ta da) (hb : PD K Z X b tb db) (hc : PD K Z X c tc dc) (hm : lastMarks [op, op'] [b, c] = false := by with_unfolding_all rfl) :
    PD K Z X (.Compare a [op, op'] [b, c] pos) (tChain r r' ta tb tc) (dChain dr dr' da db dc) := ⟨pe_chain ho.p ho'.p ha.p hb.p hc.p hm, simChain ho.s ho'.s ha.s hb.s hc.s⟩
theorem t_chain {op op' : CmpOp} {a b c : Expr} {pos : Pos} {r r' : R2} {dr dr' : DR} {ta tb tc : TE} {da db dc : DE} (ho : PDOp K X (compareOp op) r dr) (ho' : PDOp K X (compareOp op') r' dr') (ha : PD K Z X a ta da) (hb : PD K Z X b tb db) (hc : PD K Z X c tc dc) (hm : lastMarks [op, op'] [b, c] = false := by with_unfolding_all rfl) :
    PDT K Z X (.Compare a [op, op'] [b, c] pos) (tTest (tChain r r' ta tb tc)) (dTest (dChain dr dr' da db dc)) := ⟨pt_chain ho.p ho'.p ha.p hb.p hc.p hm, simTest (simChain ho.s ho'.s ha.s hb.s hc.s)⟩
def dAnd (t u : DT) : DT := fun δ μ Q => t δ μ fun c δ1 μ1 => if c = true then u δ1 μ1 Q else Q false δ1 μ1
def dOr (t u : DT) : DT := fun δ μ Q => t δ μ fun c δ1 μ1 => if c = true then Q true δ1 μ1 else u δ1 μ1 Q
def dNot (t : DT) : DT := fun δ μ Q => t δ μ fun c δ1 μ1 => Q (!c) δ1 μ1
theorem simAnd {t u : TT} {dt du : DT} (h1 : SimT K Z t dt) (h2 : SimT K Z u du) : SimT K Z (tAnd t u) (dAnd dt du) := fun B hB S μ H σ δ Q QD rl k q => by
  refine h1 B hB S μ H σ δ _ _ rl (fun S1 μ1 H1 δ1 b e1 r1 q1 => ?_) q
  cases b with
  | true =>
    rw [if_pos rfl] at q1 ⊢
    exact h2 B hB S1 μ1 H1 σ δ1 _ _ r1 (fun S2 μ2 H2 δ2 b e2 r2 q2 => k S2 μ2 H2 δ2 b (e1.trans e2) r2 q2) q1
  | false =>
    rw [if_neg Bool.false_ne_true] at q1 ⊢
    exact k S1 μ1 H1 δ1 _ e1 r1 q1
theorem simOr {t u : TT} {dt du : DT} (h1 : SimT K Z t dt) (h2 : SimT K Z u du) : SimT K Z (tOr t u) (dOr dt du) := fun B hB S μ H σ δ Q QD rl k q => by
  refine h1 B hB S μ H σ δ _ _ rl (fun S1 μ1 H1 δ1 b e1 r1 q1 => ?_) q
  cases b with
  | true =>
    rw [if_pos rfl] at q1 ⊢
    exact k S1 μ1 H1 δ1 _ e1 r1 q1
  | false =>
    rw [if_neg Bool.false_ne_true] at q1 ⊢
    exact h2 B hB S1 μ1 H1 σ δ1 _ _ r1 (fun S2 μ2 H2 δ2 b e2 r2 q2 => k S2 μ2 H2 δ2 b (e1.trans e2) r2 q2) q1
theorem simNot {t : TT} {dt : DT} (h1 : SimT K Z t dt) : SimT K Z (tNot t) (dNot dt) := fun B hB S μ H σ δ Q QD rl k q =>
  h1 B hB S μ H σ δ _ _ rl (fun S1 μ1 H1 δ1 b e1 r1 q1 => k S1 μ1 H1 δ1 _ e1 r1 q1) q
/-- tests of and, or: the parts as W -/
structure PDW (K : PySem.W.Frag) (Z : Bs) (X : Cx) (e : Expr) (te : TT) (de : DT) : Prop where
  p : PW X e te
  s : SimT K Z te de
theorem t_w {e : Expr} {t : TT} {d : DT} (h : PDW K Z X e t d) : PDT K Z X e t d := ⟨h.p.pt, h.s⟩
theorem w_and1 {a : Expr} {t : TT} {d : DT} {pos} (h : PDT K Z X a t d) : PDW K Z X (.BoolOp .And [a] pos) t d := ⟨pw_and1 h.p, h.s⟩
theorem w_or1 {a : Expr} {t : TT} {d : DT} {pos} (h : PDT K Z X a t d) : PDW K Z X (.BoolOp .Or [a] pos) t d := ⟨pw_or1 h.p, h.s⟩
theorem w_and {a b : Expr} {rest : List Expr} {t u : TT} {d du : DT} {pos} (h : PDT K Z X a t d) (h2 : PDW K Z X (.BoolOp .And (b :: rest) pos) u du) : PDW K Z X (.BoolOp .And (a :: b :: rest) pos) (tAnd t u) (dAnd d du) := ⟨pw_and h.p h2.p, simAnd h.s h2.s⟩
theorem w_or {a b : Expr} {rest : List Expr} {t u : TT} {d du : DT} {pos} (h : PDT K Z X a t d) (h2 : PDW K Z X (.BoolOp .Or (b :: rest) pos) u du) : PDW K Z X (.BoolOp .Or (a :: b :: rest) pos) (tOr t u) (dOr d du) := ⟨pw_or h.p h2.p, simOr h.s h2.s⟩
theorem t_not {a : Expr} {t : TT} {d : DT} {pos} (h : PDT K Z X a t d) : PDT K Z X (.UnaryOp .Not a pos) (tNot t) (dNot d) := ⟨pt_not h.p, simNot h.s⟩
def dAndV (da db : DE) : DE := fun δ μ Q => da δ μ fun x δ1 μ1 => ∃ c, x = .bl c ∧ if c = true then db δ1 μ1 Q else Q (.bl false) δ1 μ1
def dOrV (da db : DE) : DE := fun δ μ Q => da δ μ fun x δ1 μ1 => ∃ c, x = .bl c ∧ if c = true then Q (.bl true) δ1 μ1 else db δ1 μ1 Q
def dNotV (da : DE) : DE := fun δ μ Q => da δ μ fun x δ1 μ1 => ∃ c, x = .bl c ∧ Q (.bl (!c)) δ1 μ1
theorem simAndV {t u : TE} {dt du : DE} (h1 : SimE K Z t dt) (h2 : SimE K Z u du) : SimE K Z (tAndV t u) (dAndV dt du) := fun B hB S μ H σ δ Q QD rl k q => by
  refine h1 B hB S μ H σ δ _ _ rl (fun S1 μ1 H1 δ1 x dx e1 r1 hx q1 => ?_) q
  obtain ⟨b, rfl, q1⟩ := q1
  refine ⟨b, hx, ?_⟩
  cases b with
  | true =>
    rw [if_pos rfl] at q1 ⊢
    exact h2 B hB S1 μ1 H1 σ δ1 _ _ r1 (fun S2 μ2 H2 δ2 b d e2 r2 hd q2 => k S2 μ2 H2 δ2 b d (e1.trans e2) r2 hd q2) q1
  | false =>
    rw [if_neg Bool.false_ne_true] at q1 ⊢
    exact k S1 μ1 H1 δ1 _ (.bl false) e1 r1 rfl q1
theorem simNotV {t : TE} {dt : DE} (h1 : SimE K Z t dt) : SimE K Z (tNotV t) (dNotV dt) := fun B hB S μ H σ δ Q QD rl k q => by
  refine h1 B hB S μ H σ δ _ _ rl (fun S1 μ1 H1 δ1 x dx e1 r1 hx q1 => ?_) q
  obtain ⟨b, rfl, q1⟩ := q1
  exact ⟨b, hx, k S1 μ1 H1 δ1 _ (.bl (!b)) e1 r1 rfl q1⟩
theorem d_one {a : Expr} {op} {t : TE} {d : DE} {pos} (h : PD K Z X a t d) : PD K Z X (.BoolOp op [a] pos) t d := ⟨pe_one h.p, h.s⟩
theorem d_and {a b : Expr} {rest : List Expr} {t u : TE} {d du : DE} {pos} (h : PD K Z X a t d) (h2 : PD K Z X (.BoolOp .And (b :: rest) pos) u du) : PD K Z X (.BoolOp .And (a :: b :: rest) pos) (tAndV t u) (dAndV d du) := ⟨pe_and h.p h2.p, simAndV h.s h2.s⟩
theorem d_not {a : Expr} {t : TE} {d : DE} {pos} (h : PD K Z X a t d) : PD K Z X (.UnaryOp .Not a pos) (tNotV t) (dNotV d) := ⟨pe_not h.p, simNotV h.s⟩
def dIf (t : DT) (da db : DE) : DE := fun δ μ Q => t δ μ fun c δ1 μ1 => if c = true then da δ1 μ1 Q else db δ1 μ1 Q
theorem simIf {t : TT} {ta tb : TE} {dt : DT} {da db : DE} (h1 : SimT K Z t dt) (ha : SimE K Z ta da) (hb : SimE K Z tb db) : SimE K Z (tIf t ta tb) (dIf dt da db) := fun B hB S μ H σ δ Q QD rl k q => by
  refine h1 B hB S μ H σ δ _ _ rl (fun S1 μ1 H1 δ1 b e1 r1 q1 => ?_) q
  cases b with
  | true =>
    rw [if_pos rfl] at q1 ⊢
    exact ha B hB S1 μ1 H1 σ δ1 _ _ r1 (fun S2 μ2 H2 δ2 b d e2 r2 hd q2 => k S2 μ2 H2 δ2 b d (e1.trans e2) r2 hd q2) q1
  | false =>
    rw [if_neg Bool.false_ne_true] at q1 ⊢
    exact hb B hB S1 μ1 H1 σ δ1 _ _ r1 (fun S2 μ2 H2 δ2 b d e2 r2 hd q2 => k S2 μ2 H2 δ2 b d (e1.trans e2) r2 hd q2) q1
theorem d_ifExp {c a b : Expr} {pos} {t : TT} {ta tb : TE} {dt : DT} {da db : DE} (hc : PDT K Z X c t dt) (ha : PD K Z X a ta da) (hb : PD K Z X b tb db) : PD K Z X (.IfExp c a b pos) (tIf t ta tb) (dIf dt da db) := ⟨pe_ifExp hc.p ha.p hb.p, simIf hc.s ha.s hb.s⟩
/-! ### arguments, displays -/
def dNil : DA := fun δ μ Q => Q [] δ μ
def dCons (da : DE) (dr : DA) : DA := fun δ μ Q => da δ μ fun x δ1 μ1 => dr δ1 μ1 fun xs δ2 μ2 => Q (x :: xs) δ2 μ2
theorem a_nil : PDA K Z X [] tNil dNil := ⟨pa_nil, fun B hB S μ H σ δ Q QD rl k q => k S μ H δ _ [] (Ex.refl S) rl rfl q⟩
theorem a_cons {e : Expr} {es : List Expr} {te : TE} {ta : TA} {de : DE} {da : DA} (h : PD K Z X e te de) (hr : PDA K Z X es ta da) (hs : starEach (e :: es) X.env = (false, eval e X.env) :: starEach es X.env := by rfl) : PDA K Z X (e :: es) (tCons te ta) (dCons de da) :=
  ⟨pa_cons h.p hr.p hs, fun B hB S μ H σ δ Q QD rl k q => by
    refine h.s B hB S μ H σ δ _ _ rl (fun S1 μ1 H1 δ1 x dx e1 r1 hx q1 => ?_) q
    refine hr.s B hB S1 μ1 H1 σ δ1 _ _ r1 (fun S2 μ2 H2 δ2 xs ds e2 r2 h2 q2 => ?_) q1
    exact k S2 μ2 H2 δ2 _ (dx :: ds) (e1.trans e2) r2 ⟨x, xs, rfl, Rep.mono e2 _ _ hx, h2⟩ q2⟩
def dTup (da : DA) : DE := fun δ μ Q => da δ μ fun xs δ1 μ1 => xs.length ≤ sizeLine ∧ Q (.tup xs) δ1 μ1
def dLst (da : DA) : DE := fun δ μ Q => da δ μ fun xs δ1 μ1 => xs.length ≤ sizeLine ∧ Q (.lst xs) δ1 μ1
/-- a list that is a cell of its own -/
def dLstM (da : DA) : DE := fun δ μ Q => da δ μ fun xs δ1 μ1 => xs.length ≤ sizeLine ∧ ∀ p, μ1 p = none → Q (.ref p) δ1 (updM μ1 p (.lst xs))
theorem simTup {ta : TA} {da : DA} (h : SimA K Z ta da) : SimE K Z (tTup ta) (dTup da) := fun B hB S μ H σ δ Q QD rl k q => by
  refine h B hB S μ H σ δ _ _ rl (fun S1 μ1 H1 δ1 xs ds e1 r1 hx q1 => ?_) q
  refine ⟨by rw [RepL.length hx]; exact q1.1, fun p hp => ?_⟩
  obtain ⟨r3, g⟩ := r1.r3.alloc (o := .tup xs) hp
  exact k _ μ1 _ δ1 _ (.tup ds) (e1.trans g.ex) (r1.grow g r3) ⟨p, xs, rfl, upd_same, RepL.mono g.ex _ _ hx⟩ q1.2
theorem simLst {ta : TA} {da : DA} (h : SimA K Z ta da) : SimE K Z (tLst ta) (dLst da) := fun B hB S μ H σ δ Q QD rl k q => by
  refine h B hB S μ H σ δ _ _ rl (fun S1 μ1 H1 δ1 xs ds e1 r1 hx q1 => ?_) q
  refine ⟨by rw [RepL.length hx]; exact q1.1, fun p hp => ?_⟩
  obtain ⟨r3, g⟩ := r1.r3.alloc (o := .lst xs) hp
  exact k _ μ1 _ δ1 _ (.lst ds) (e1.trans g.ex) (r1.grow g r3) ⟨p, xs, rfl, upd_same, RepL.mono g.ex _ _ hx⟩ q1.2
theorem d_tup {es : List Expr} {x1} {pos} {ta : TA} {da : DA} (h : PDA K Z X es ta da) : PD K Z X (.Tuple es x1 pos) (tTup ta) (dTup da) := ⟨pe_tup h.p, simTup h.s⟩
theorem d_lst {es : List Expr} {pos} {ta : TA} {da : DA} (h : PDA K Z X es ta da) : PD K Z X (.List es pos) (tLst ta) (dLst da) := ⟨pe_lst h.p, simLst h.s⟩
/-! ### calls of values -/
def dCB (dc : DC) (da : DA) : DE := fun δ μ Q => da δ μ fun ds δ1 μ1 => dc ds μ1 fun d μ2 => Q d δ1 μ2
theorem simCB {r : List V → Hp → VK → Prop} {dc : DC} {ta : TA} {da : DA} (hr : SimC K r dc) (ha : SimA K Z ta da) : SimE K Z (tCB r ta) (dCB dc da) := fun B hB S μ H σ δ Q QD rl k q => by
  refine ha B hB S μ H σ δ _ _ rl (fun S1 μ1 H1 δ1 xs ds e1 r1 hx q1 => ?_) q
  refine hr S1 μ1 H1 xs ds _ _ r1.r3 hx (fun S2 μ2 H2 v d g r2 hv q2 => ?_) q1
  exact k S2 μ2 H2 δ1 v d (e1.trans g.ex) (r1.grow g r2) hv q2
theorem d_callB {x : Str} {p pos : Pos} {id : String} {e : Expr} {es : List Expr} {r : List V → Hp → VK → Prop} {dc : DC} {ta : TA} {da : DA} (hc : PDC K X (.builtin id) r dc) (hg : Gl X x) (hm : X.mg x = none) (hv : bootBuiltins x = some (.builtin id)) (ha : PDA K Z X (e :: es) ta da)
    (hn : x ≠ "__name__" := by decide) (hdb : (x == ("__debug__" : Str)) = false := by decide) (hs : starEach (e :: es) X.env = (false, eval e X.env) :: starEach es X.env := by rfl) (hpl : (backTo pos (starEach es X.env)).any (·.1) = false := by rfl) : PD K Z X (.Call (.Name x p) (e :: es) [] pos) (tCB r ta) (dCB dc da) := ⟨pe_callB hc.p hg hm hv ha.p hn hdb hs hpl, simCB hc.s ha.s⟩
theorem d_callTy {x : Str} {p pos : Pos} {T : String} {e : Expr} {es : List Expr} {r : List V → Hp → VK → Prop} {dc : DC} {ta : TA} {da : DA} (hc : PDC K X (.type T) r dc) (hg : Gl X x) (hm : X.mg x = none) (hv : bootBuiltins x = some (.type T)) (ha : PDA K Z X (e :: es) ta da)
    (hn : x ≠ "__name__" := by decide) (hdb : (x == ("__debug__" : Str)) = false := by decide) (hs : starEach (e :: es) X.env = (false, eval e X.env) :: starEach es X.env := by rfl) (hpl : (backTo pos (starEach es X.env)).any (·.1) = false := by rfl) : PD K Z X (.Call (.Name x p) (e :: es) [] pos) (tCB r ta) (dCB dc da) := ⟨pe_callTy hc.p hg hm hv ha.p hn hdb hs hpl, simCB hc.s ha.s⟩
end Dl
namespace Dl
open PySem L2
variable {X : Cx} {K : PySem.W.Frag} {Z : Bs}
/-! ### operators -/
theorem simI0 {g : Int → Int → V} {g' : Int → Int → D} (h : ∀ S i j, Rep K S (g' i j) (g i j)) : SimR K (rI0 g) (fun x y μ Q => ∃ i j, x = .int i ∧ y = .int j ∧ Q (g' i j) μ) := fun S μ H x y dx dy Q QD r hx hy k q => by
  obtain ⟨i, j, rfl, rfl, q⟩ := q
  exact ⟨i, j, hx, hy, k S μ H _ _ Grow.refl r (h S i j) q⟩
theorem simIC {C : Int → Int → Prop} {g : Int → Int → V} {g' : Int → Int → D} (h : ∀ S i j, Rep K S (g' i j) (g i j)) : SimR K (rI C g) (fun x y μ Q => ∃ i j, x = .int i ∧ y = .int j ∧ C i j ∧ Q (g' i j) μ) := fun S μ H x y dx dy Q QD r hx hy k q => by
  obtain ⟨i, j, rfl, rfl, c, q⟩ := q
  exact ⟨i, j, hx, hy, c, k S μ H _ _ Grow.refl r (h S i j) q⟩
theorem simOrR {r r' : R2} {d d' : DR} (h : SimR K r d) (h' : SimR K r' d') : SimR K (fun x y H Q => r x y H Q ∨ r' x y H Q) (fun x y μ Q => d x y μ Q ∨ d' x y μ Q) := fun S μ H x y dx dy Q QD r hx hy k q => by
  rcases q with q | q
  · exact .inl (h S μ H x y dx dy Q QD r hx hy k q)
  · exact .inr (h' S μ H x y dx dy Q QD r hx hy k q)
theorem simOrC {r r' : List V → Hp → VK → Prop} {d d' : DC} (h : SimC K r d) (h' : SimC K r' d') : SimC K (fun x H Q => r x H Q ∨ r' x H Q) (fun x μ Q => d x μ Q ∨ d' x μ Q) := fun S μ H x dx Q QD r hx k q => by
  rcases q with q | q
  · exact .inl (h S μ H x dx Q QD r hx k q)
  · exact .inr (h' S μ H x dx Q QD r hx k q)
theorem PDOp.or {f : Value → Value → Sem Value} {r r' : R2} {d d' : DR} (h : PDOp K X f r d) (h' : PDOp K X f r' d') : PDOp K X f (fun x y H Q => r x y H Q ∨ r' x y H Q) (fun x y μ Q => d x y μ Q ∨ d' x y μ Q) := ⟨h.p.or h'.p, simOrR h.s h'.s⟩
theorem PDC.or {f : Value} {r r' : List V → Hp → VK → Prop} {d d' : DC} (h : PDC K X f r d) (h' : PDC K X f r' d') : PDC K X f (fun x H Q => r x H Q ∨ r' x H Q) (fun x μ Q => d x μ Q ∨ d' x μ Q) := ⟨h.p.or h'.p, simOrC h.s h'.s⟩
abbrev rdI (g : Int → Int → D) : DR := fun x y μ Q => ∃ i j, x = .int i ∧ y = .int j ∧ Q (g i j) μ
abbrev rdC (C : Int → Int → Prop) (g : Int → Int → D) : DR := fun x y μ Q => ∃ i j, x = .int i ∧ y = .int j ∧ C i j ∧ Q (g i j) μ
def rdSub : DR := rdI fun i j => .int (i - j)
def rdLt : DR := rdI fun i j => .bl (decide (i < j))
def rdLe : DR := rdI fun i j => .bl (decide (i ≤ j))
def rdGt : DR := rdI fun i j => .bl (decide (j < i))
def rdGe : DR := rdI fun i j => .bl (decide (j ≤ i))
def rdMod : DR := rdC (fun _ j => 0 < j) fun i j => .int (i % j)
def rdDiv : DR := rdC CDivW fun i j => .int (i / j)
def rdPow : DR := rdC CPow fun i j => .int (i ^ j.toNat)
theorem o_sub : PDOp K X (binaryOp .Sub) (rI0 fun i j => .int (i - j)) rdSub := ⟨op_sub, simI0 fun _ _ _ => rfl⟩
theorem o_lt : PDOp K X (compareOp .Lt) (rI0 fun i j => .bl (decide (i < j))) rdLt := ⟨op_lt, simI0 fun _ _ _ => rfl⟩
theorem o_le : PDOp K X (compareOp .LtE) (rI0 fun i j => .bl (decide (i ≤ j))) rdLe := ⟨op_le, simI0 fun _ _ _ => rfl⟩
theorem o_gt : PDOp K X (compareOp .Gt) (rI0 fun i j => .bl (decide (j < i))) rdGt := ⟨op_gt, simI0 fun _ _ _ => rfl⟩
theorem o_mod : PDOp K X (binaryOp .Mod) (rI (fun _ j => 0 < j) fun i j => .int (i % j)) rdMod := ⟨op_mod, simIC fun _ _ _ => rfl⟩
theorem o_div : PDOp K X (binaryOp .FloorDiv) (rI CDivW fun i j => .int (i / j)) rdDiv := ⟨op_fdivW, simIC fun _ _ _ => rfl⟩
theorem o_pow : PDOp K X (binaryOp .Pow) (rI CPow fun i j => .int (i ^ j.toNat)) rdPow := ⟨op_pow, simIC fun _ _ _ => rfl⟩
/-- + of ints, texts, lists, tuples -/
theorem sim_addS : SimR K (fun x y H Q => ∃ i j, x = .str i ∧ y = .str j ∧ i.length + j.length ≤ sizeLine ∧ Q (.str (i ++ j)) H) (fun x y μ Q => ∃ i j, x = .str i ∧ y = .str j ∧ i.length + j.length ≤ sizeLine ∧ Q (.str (i ++ j)) μ) := fun S μ H x y dx dy Q QD r hx hy k q => by
  obtain ⟨i, j, rfl, rfl, c, q⟩ := q
  exact ⟨i, j, hx, hy, c, k S μ H _ (.str (i ++ j)) Grow.refl r rfl q⟩
theorem sim_catL : SimR K rCat (fun x y μ Q => ∃ l m, x = .lst l ∧ y = .lst m ∧ l.length + m.length ≤ sizeLine ∧ Q (.lst (l ++ m)) μ) := fun S μ H x y dx dy Q QD r hx hy k q => by
  obtain ⟨l, m, rfl, rfl, c, q⟩ := q
  obtain ⟨a, vs, rfl, h1, h2⟩ := hx
  obtain ⟨b, ws, rfl, h3, h4⟩ := hy
  refine ⟨a, b, vs, ws, rfl, rfl, exr_lst r.ex h1, exr_lst r.ex h3, by rw [RepL.length h2, RepL.length h4]; exact c, fun p hp => ?_⟩
  obtain ⟨r3, g⟩ := r.alloc (o := .lst (vs ++ ws)) hp
  exact k _ μ _ _ (.lst (l ++ m)) g r3 ⟨p, _, rfl, upd_same, RepL.mono g.ex _ _ (RepL.append h2 h4)⟩ q
theorem sim_catT : SimR K (rCatA K) (fun x y μ Q => ∃ l m, x = .tup l ∧ y = .tup m ∧ l.length + m.length ≤ sizeLine ∧ Q (.tup (l ++ m)) μ) := fun S μ H x y dx dy Q QD r hx hy k q => by
  obtain ⟨l, m, rfl, rfl, c, q⟩ := q
  obtain ⟨a, vs, rfl, h1, h2⟩ := hx
  obtain ⟨b, ws, rfl, h3, h4⟩ := hy
  refine ⟨a, b, vs, ws, rfl, rfl, exr_t r.ex (SqT.of h1), exr_t r.ex (SqT.of h3), by rw [RepL.length h2, RepL.length h4]; exact c, fun e => ?_, fun _ e => ?_, fun _ _ p hp => ?_⟩
  · have e1 := RepL.length h2
    rw [e] at e1
    have e2 : l = [] := List.length_eq_zero_iff.mp e1.symm
    subst e2
    exact k S μ H _ (.tup ([] ++ m)) Grow.refl r ⟨b, ws, rfl, h3, h4⟩ q
  · have e1 := RepL.length h4
    rw [e] at e1
    have e2 : m = [] := List.length_eq_zero_iff.mp e1.symm
    subst e2
    exact k S μ H _ (.tup (l ++ [])) Grow.refl r ⟨a, vs, rfl, h1, by rw [List.append_nil]; exact h2⟩ q
  · obtain ⟨r3, g⟩ := r.alloc (o := .tup (vs ++ ws)) hp
    exact k _ μ _ _ (.tup (l ++ m)) g r3 ⟨p, _, rfl, upd_same, RepL.mono g.ex _ _ (RepL.append h2 h4)⟩ q
def rdAdd : DR := fun x y μ Q => (∃ i j, x = .int i ∧ y = .int j ∧ Q (.int (i + j)) μ) ∨ (∃ i j, x = .str i ∧ y = .str j ∧ i.length + j.length ≤ sizeLine ∧ Q (.str (i ++ j)) μ) ∨
  (∃ l m, x = .lst l ∧ y = .lst m ∧ l.length + m.length ≤ sizeLine ∧ Q (.lst (l ++ m)) μ) ∨ (∃ l m, x = .tup l ∧ y = .tup m ∧ l.length + m.length ≤ sizeLine ∧ Q (.tup (l ++ m)) μ)
def rAddA (K : PySem.W.Frag) : R2 := fun x y H Q => rI0 (fun i j => .int (i + j)) x y H Q ∨ ((∃ i j, x = .str i ∧ y = .str j ∧ i.length + j.length ≤ sizeLine ∧ Q (.str (i ++ j)) H) ∨ (rCat x y H Q ∨ rCatA K x y H Q))
theorem o_add (hk : X.K = K := by rfl) : PDOp K X (binaryOp .Add) (rAddA K) rdAdd := by
  subst hk
  exact ⟨op_add.or (op_add_str.or (op_cat.or op_catA)), simOrR (simI0 fun _ _ _ => rfl) (simOrR sim_addS (simOrR sim_catL sim_catT))⟩
/-- * of ints; a list so often -/
theorem sim_rep : SimR K rRep (fun x y μ Q => ∃ l n, x = .lst l ∧ y = .int n ∧ 0 ≤ n ∧ n ≤ 10000 ∧ l.length * n.toNat ≤ sizeLine ∧ Q (.lst (List.replicate n.toNat l).flatten) μ) := fun S μ H x y dx dy Q QD r hx hy k q => by
  obtain ⟨l, n, rfl, rfl, h0, h1, c, q⟩ := q
  obtain ⟨a, vs, rfl, h2, h3⟩ := hx
  have hy : y = .int n := hy
  subst hy
  refine ⟨a, n, vs, rfl, rfl, exr_lst r.ex h2, by omega, by omega, by rw [RepL.length h3]; exact c, fun p hp => ?_⟩
  obtain ⟨r3, g⟩ := r.alloc (o := .lst (List.replicate n.toNat vs).flatten) hp
  refine k _ μ _ _ (.lst (List.replicate n.toNat l).flatten) g r3 ⟨p, _, rfl, upd_same, RepL.mono g.ex _ _ ?_⟩ q
  generalize n.toNat = m
  induction m with
  | zero => rfl
  | succ m ih => rw [List.replicate_succ, List.replicate_succ, List.flatten_cons, List.flatten_cons]; exact RepL.append h3 ih
def rdMul : DR := fun x y μ Q => (∃ i j, x = .int i ∧ y = .int j ∧ CMulW i j ∧ Q (.int (i * j)) μ) ∨ (∃ l n, x = .lst l ∧ y = .int n ∧ 0 ≤ n ∧ n ≤ 10000 ∧ l.length * n.toNat ≤ sizeLine ∧ Q (.lst (List.replicate n.toNat l).flatten) μ)
def rMulA : R2 := fun x y H Q => rI CMulW (fun i j => .int (i * j)) x y H Q ∨ rRep x y H Q
theorem o_mul : PDOp K X (binaryOp .Mult) rMulA rdMul := ⟨op_mulW.or op_rep, simOrR (simIC fun _ _ _ => rfl) sim_rep⟩
/-- one sign in a text -/
def rdInS : DR := fun x y μ Q => ∃ (c : Nat) (z : Str), x = .str ⟨#[c]⟩ ∧ y = .str z ∧ Q (.bl (decide (c ∈ z.cps.toList))) μ
def rdNotInS : DR := fun x y μ Q => ∃ (c : Nat) (z : Str), x = .str ⟨#[c]⟩ ∧ y = .str z ∧ Q (.bl (!decide (c ∈ z.cps.toList))) μ
theorem o_inS : PDOp K X (compareOp .In) rInS rdInS := ⟨op_in_sign, fun S μ H x y dx dy Q QD r hx hy k q => by
  obtain ⟨i, j, rfl, rfl, q⟩ := q
  exact ⟨i, j, hx, hy, k S μ H _ (.bl (decide (i ∈ j.cps.toList))) Grow.refl r rfl q⟩⟩
/-- is None -/
def isNon : D → Bool
  | .non => true
  | _ => false
theorem isNon_eq {S : Hp} {d : D} {v : V} (h : Rep K S d v) : decide (v = .non) = isNon d := by
  cases d with
  | non => have h : v = .non := h; subst h; rfl
  | bl b => have h : v = .bl b := h; subst h; rfl
  | int b => have h : v = .int b := h; subst h; rfl
  | str b => have h : v = .str b := h; subst h; rfl
  | ref b => have h : v = .ref b := h; subst h; rfl
  | ty b => have h : v = .ty b := h; subst h; rfl
  | tup l => obtain ⟨a, vs, rfl, _⟩ := h; rfl
  | lst l => obtain ⟨a, vs, rfl, _⟩ := h; rfl
  | scr l => obtain ⟨a, vs, rfl, _⟩ := h; rfl
  | dct l => obtain ⟨a, vs, rfl, _⟩ := h; rfl
  | dcT l => obtain ⟨a, vs, rfl, _⟩ := h; rfl
  | obj C l => obtain ⟨a, dx, vs, rfl, _⟩ := h; rfl
  | exc C l b =>
    cases b with
    | false => obtain ⟨a, rfl, _⟩ := h; rfl
    | true => obtain ⟨a, x, vs, rfl, _⟩ := h; rfl
  | drw ns => obtain ⟨a, sa, rfl, _⟩ := h; rfl
  | fn n => have h : v = .ref _ := h; subst h; rfl
  | ktp l => obtain ⟨a, vs, rfl, _⟩ := h; rfl
def rdIsN : DR := fun x y μ Q => y = .non ∧ Q (.bl (isNon x)) μ
def rdNotN : DR := fun x y μ Q => y = .non ∧ Q (.bl (!isNon x)) μ
theorem o_isN : PDOp K X (compareOp .Is) rIsN rdIsN := ⟨op_isN, fun S μ H x y dx dy Q QD r hx hy k q => by
  obtain ⟨rfl, q⟩ := q
  exact ⟨hy, k S μ H _ (.bl (isNon dx)) Grow.refl r (by rw [isNon_eq hx]; rfl) q⟩⟩
theorem o_notN : PDOp K X (compareOp .IsNot) rNotN rdNotN := ⟨op_notN, fun S μ H x y dx dy Q QD r hx hy k q => by
  obtain ⟨rfl, q⟩ := q
  exact ⟨hy, k S μ H _ (.bl (!isNon dx)) Grow.refl r (by rw [isNon_eq hx]; rfl) q⟩⟩
/-! ### == of data -/
mutual
def pd : D → Option PyData
  | .non => some .none
  | .bl b => some (.bool b)
  | .int i => some (.int i)
  | .str x => some (.str x)
  | .tup l => (pds l).map .tuple
  | .lst l => (pds l).map .list
  | .scr l => (pds l).map .list
  | _ => none
def pds : List D → Option (List PyData)
  | [] => some []
  | d :: ds => (pd d).bind fun x => (pds ds).map (x :: ·)
end
mutual
theorem dp_of {S : Hp} {H : Hp} (e : ExR S H) : ∀ (d : D) (v : V) (p : PyData), Rep K S d v → pd d = some p → Dp K H v p
  | .non, v, p, h, q => by have h : v = _ := h; have q : some _ = some p := q; cases q; subst h; exact .non
  | .bl b, v, p, h, q => by have h : v = _ := h; have q : some _ = some p := q; cases q; subst h; exact .bl b
  | .int b, v, p, h, q => by have h : v = _ := h; have q : some _ = some p := q; cases q; subst h; exact .int b
  | .str b, v, p, h, q => by have h : v = _ := h; have q : some _ = some p := q; cases q; subst h; exact .str b
  | .tup l, v, p, h, q => by
    obtain ⟨a, vs, rfl, h1, h2⟩ := h
    have q : (pds l).map PyData.tuple = some p := q
    cases e1 : pds l with
    | none => rw [e1] at q; cases q
    | some ps => rw [e1] at q; cases q; exact .tup (exr_t e (SqT.of h1)) (dps_of e l vs ps h2 e1)
  | .lst l, v, p, h, q => by
    obtain ⟨a, vs, rfl, h1, h2⟩ := h
    have q : (pds l).map PyData.list = some p := q
    cases e1 : pds l with
    | none => rw [e1] at q; cases q
    | some ps => rw [e1] at q; cases q; exact .lst (SqL.of (exr_lst e h1)) (dps_of e l vs ps h2 e1)
  | .scr l, v, p, h, q => by
    obtain ⟨a, vs, rfl, h1, h2⟩ := h
    have q : (pds l).map PyData.list = some p := q
    cases e1 : pds l with
    | none => rw [e1] at q; cases q
    | some ps => rw [e1] at q; cases q; exact .lst (exr_l e h1) (dps_of e l vs ps h2 e1)
  | .ref _, _, _, _, q => nomatch q
  | .ty _, _, _, _, q => nomatch q
  | .dct _, _, _, _, q => nomatch q
  | .dcT _, _, _, _, q => nomatch q
  | .obj _ _, _, _, _, q => nomatch q
  | .exc _ _ _, _, _, _, q => nomatch q
  | .drw _, _, _, _, q => nomatch q
  | .fn _, _, _, _, q => nomatch q
  | .ktp _, _, _, _, q => nomatch q
theorem dps_of {S : Hp} {H : Hp} (e : ExR S H) : ∀ (d : List D) (v : List V) (p : List PyData), RepL K S d v → pds d = some p → DpAll K H v p
  | [], v, p, h, q => by have h : v = [] := h; have q : some [] = some p := q; cases q; subst h; exact .nil
  | d :: ds, v, p, h, q => by
    obtain ⟨x, r, rfl, h1, h2⟩ := h
    have q : (pd d).bind (fun x => (pds ds).map (x :: ·)) = some p := q
    cases e1 : pd d with
    | none => rw [e1] at q; cases q
    | some y =>
      rw [e1] at q
      cases e2 : pds ds with
      | none => rw [e2] at q; cases q
      | some ys =>
        rw [e2] at q
        have q : some (y :: ys) = some p := q
        cases q
        exact .cons (dp_of e d x y h1 e1) (dps_of e ds r ys h2 e2)
end
def eqD (x y : D) : Bool := match pd x, pd y with
  | some p, some q => PyData.eqv p q
  | _, _ => false
def shD (x : D) : Bool := match pd x with
  | some p => SeqAt.shaped p
  | _ => false
/-- a list of the memory is read as it is -/
def drf (μ : Mem) : D → D
  | .ref p => match μ p with
    | some (.lst l) => .lst l
    | _ => .ref p
  | d => d
theorem drf_sh {μ : Mem} {x : D} (h : shD x = true) : drf μ x = x := by
  cases x with
  | ref p => cases h
  | _ => rfl
theorem dp_drf {S : Hp} {μ : Mem} {H : Hp} (r : R3 K S μ H) {d : D} {v : V} {p : PyData} (hv : Rep K S d v) (e : pd (drf μ d) = some p) : Dp K H v p := by
  cases d with
  | ref a =>
    unfold drf at e
    dsimp only at e
    split at e
    · rename_i l hm
      have hv : v = .ref a := hv
      subst hv
      obtain ⟨_, o, h1, vs, rfl, h2⟩ := r.mu a _ hm
      have e : (pds l).map PyData.list = some p := e
      cases e1 : pds l with
      | none => rw [e1] at e; cases e
      | some ps => rw [e1] at e; cases e; exact .lst (SqL.of h1) (dps_of r.ex l vs ps h2 e1)
    · exact nomatch (show (none : Option PyData) = some p from e)
  | _ => exact dp_of r.ex _ _ _ hv e
def rdEq : DR := fun x y μ Q => (∃ i j, x = .str i ∧ y = .str j ∧ Q (.bl (decide (i = j))) μ) ∨ (shD (drf μ x) = true ∧ shD (drf μ y) = true ∧ Q (.bl (eqD (drf μ x) (drf μ y))) μ)
def rdNe : DR := fun x y μ Q => (∃ i j, x = .str i ∧ y = .str j ∧ Q (.bl (!decide (i = j))) μ) ∨ (shD (drf μ x) = true ∧ shD (drf μ y) = true ∧ Q (.bl (!eqD (drf μ x) (drf μ y))) μ)
def rEqA (K : PySem.W.Frag) : R2 := fun x y H Q => rEq x y H Q ∨ rEqD K x y H Q
def rNeA (K : PySem.W.Frag) : R2 := fun x y H Q => rNe x y H Q ∨ rNeD K x y H Q
theorem dec_str (i j : Str) : decide (V.str i = V.str j) = decide (i = j) := by
  by_cases h : i = j
  · subst h; simp
  · simp [h]
theorem shD_some {x : D} (h : shD x = true) : ∃ p, pd x = some p ∧ SeqAt.shaped p = true := by
  unfold shD at h
  cases e : pd x with
  | none => rw [e] at h; cases h
  | some p => rw [e] at h; exact ⟨p, rfl, h⟩
theorem o_eq (hu : X.A.units + 64 < cLine) (hk : X.K = K := by rfl) : PDOp K X (compareOp .Eq) (rEqA K) rdEq := by
  subst hk
  exact ⟨op_eq.or (op_eqD hu), fun S μ H x y dx dy Q QD r hx hy k q => by
  rcases q with ⟨i, j, rfl, rfl, q⟩ | ⟨h1, h2, q⟩
  · have hx : x = .str i := hx
    have hy : y = .str j := hy
    subst hx hy
    refine .inl ⟨rfl, ?_⟩
    rw [dec_str]
    exact k S μ H _ (.bl (decide (i = j))) Grow.refl r rfl q
  · obtain ⟨p, e1, s1⟩ := shD_some h1
    obtain ⟨p', e2, s2⟩ := shD_some h2
    exact .inr ⟨p, p', dp_drf r hx e1, dp_drf r hy e2, s1, s2, k S μ H _ (.bl (eqD (drf μ dx) (drf μ dy))) Grow.refl r (by unfold eqD; rw [e1, e2]; rfl) q⟩⟩
theorem o_ne (hu : X.A.units + 64 < cLine) (hk : X.K = K := by rfl) : PDOp K X (compareOp .NotEq) (rNeA K) rdNe := by
  subst hk
  exact ⟨op_ne.or (op_neD hu), fun S μ H x y dx dy Q QD r hx hy k q => by
  rcases q with ⟨i, j, rfl, rfl, q⟩ | ⟨h1, h2, q⟩
  · have hx : x = .str i := hx
    have hy : y = .str j := hy
    subst hx hy
    refine .inl ⟨rfl, ?_⟩
    rw [dec_str]
    exact k S μ H _ (.bl (!decide (i = j))) Grow.refl r rfl q
  · obtain ⟨p, e1, s1⟩ := shD_some h1
    obtain ⟨p', e2, s2⟩ := shD_some h2
    exact .inr ⟨p, p', dp_drf r hx e1, dp_drf r hy e2, s1, s2, k S μ H _ (.bl (!eqD (drf μ dx) (drf μ dy))) Grow.refl r (by unfold eqD; rw [e1, e2]; rfl) q⟩⟩
/-! ### items, slices -/
def seqOf (μ : Mem) : D → Option (List D)
  | .lst l => some l
  | .scr l => some l
  | .tup l => some l
  | .ref p => match μ p with
    | some (.lst l) => some l
    | _ => none
  | _ => none
theorem seq_is {S : Hp} {μ : Mem} {H : Hp} (r : R3 K S μ H) {d : D} {v : V} {l : List D} (h : Rep K S d v) (e : seqOf μ d = some l) : ∃ a vs, v = .ref a ∧ (SqL K H a vs ∨ SqT K H a vs) ∧ RepL K S l vs := by
  cases d with
  | lst m => cases e; obtain ⟨a, vs, rfl, h1, h2⟩ := h; exact ⟨a, vs, rfl, .inl (SqL.of (exr_lst r.ex h1)), h2⟩
  | scr m => cases e; obtain ⟨a, vs, rfl, h1, h2⟩ := h; exact ⟨a, vs, rfl, .inl (exr_l r.ex h1), h2⟩
  | tup m => cases e; obtain ⟨a, vs, rfl, h1, h2⟩ := h; exact ⟨a, vs, rfl, .inr (exr_t r.ex (SqT.of h1)), h2⟩
  | ref p =>
    have h : v = .ref p := h
    unfold seqOf at e
    dsimp only at e
    split at e
    · cases e
      rename_i hm
      obtain ⟨_, o, h1, vs, rfl, h2⟩ := r.mu p _ hm
      exact ⟨p, vs, h, .inl (SqL.of h1), h2⟩
    · cases e
  | _ => cases e
theorem RepL.atI {S : Hp} {l : List D} {vs : List V} {i : Int} {d : D} (h : RepL K S l vs) (e : L2.atI l i = some d) : ∃ v, L2.atI vs i = some v ∧ Rep K S d v := by
  unfold L2.atI at e ⊢
  rw [RepL.length h]
  cases q : ixN l.length i with
  | none => rw [q] at e; cases e
  | some j =>
    rw [q] at e
    exact RepL.get h e
def rdIx : DR := fun x y μ Q => ∃ i, y = .int i ∧ ((∃ l d, seqOf μ x = some l ∧ atI l i = some d ∧ Q d μ) ∨ (∃ z c, x = .str z ∧ z.length ≤ sizeLine ∧ atI z.cps.toList i = some c ∧ Q (.str ⟨#[c]⟩) μ))
theorem sim_ix : SimR K (rIx K) rdIx := fun S μ H x y dx dy Q QD r hx hy k q => by
  obtain ⟨i, rfl, q⟩ := q
  have hy : y = .int i := hy
  subst hy
  rcases q with ⟨l, d, e, ea, q⟩ | ⟨z, c, rfl, hz, ea, q⟩
  · obtain ⟨a, vs, rfl, hs, h2⟩ := seq_is r hx e
    obtain ⟨v, e1, hv⟩ := RepL.atI h2 ea
    have q' := k S μ H v d Grow.refl r hv q
    rcases hs with hs | hs
    · exact .inl ⟨a, vs, i, v, rfl, rfl, hs, e1, q'⟩
    · exact .inr (.inl ⟨a, vs, i, v, rfl, rfl, hs, e1, q'⟩)
  · exact .inr (.inr ⟨z, i, c, hx, rfl, hz, ea, k S μ H _ (.str ⟨#[c]⟩) Grow.refl r rfl q⟩)
theorem d_ix {a b : Expr} {pos : Pos} {ta tb : TE} {da db : DE} (ha : PD K Z X a ta da) (hb : PD K Z X b tb db) (hs : PlainIx b := by exact fun _ _ => rfl) (hk : X.K = K := by rfl) : PD K Z X (.Subscript a b pos) (tOp (rIx K) ta tb) (dOp rdIx da db) := by
  subst hk
  exact ⟨pe_ix ix_seq ha.p hb.p hs, simOp sim_ix ha.s hb.s⟩
def dNoPart : DO := fun δ μ Q => Q none δ μ
def dPart (de : DE) : DO := fun δ μ Q => de δ μ fun x δ1 μ1 => ∃ i, x = .int i ∧ Q (some i) δ1 μ1
theorem po_n : PDO K Z X none tNoPart dNoPart := ⟨po_none, fun B hB S μ H σ δ Q QD rl k q => k S μ H δ _ (Ex.refl S) rl q⟩
theorem po_s {e : Expr} {te : TE} {de : DE} (h : PD K Z X e te de) : PDO K Z X (some e) (tPart te) (dPart de) := ⟨po_some h.p, fun B hB S μ H σ δ Q QD rl k q => by
  refine h.s B hB S μ H σ δ _ _ rl (fun S1 μ1 H1 δ1 x dx e1 r1 hx q1 => ?_) q
  obtain ⟨i, rfl, q1⟩ := q1
  exact ⟨i, hx, k S1 μ1 H1 δ1 _ e1 r1 q1⟩⟩
def cutD (xs : List D) (lo hi : Option Int) : List D := (xs.drop (HT.sIx xs.length 0 lo)).take (HT.sIx xs.length xs.length hi - HT.sIx xs.length 0 lo)
theorem RepL.cut {S : Hp} {l : List D} {vs : List V} (h : RepL K S l vs) (lo hi : Option Int) : RepL K S (cutD l lo hi) (cutV vs lo hi) := by
  unfold cutD cutV
  rw [RepL.length h]
  exact RepL.take _ (RepL.drop _ h)
abbrev DSl := D → Option Int → Option Int → Mem → QM → Prop
def rdSl : DSl := fun x lo hi μ Q => (∃ z, x = .str z ∧ z.length ≤ sizeLine ∧ Q (.str (cutS z lo hi)) μ) ∨ (∃ l, x = .tup l ∧ Q (.tup (cutD l lo hi)) μ) ∨ (∃ l, (∀ m, x ≠ .tup m) ∧ seqOf μ x = some l ∧ Q (.lst (cutD l lo hi)) μ)
def rSlAll (K : PySem.W.Frag) : V → Option Int → Option Int → Hp → VK → Prop := fun x lo hi H Q => rSlS x lo hi H Q ∨ (rSlA K x lo hi H Q ∨ rSlL K x lo hi H Q)
theorem seq_isL {S : Hp} {μ : Mem} {H : Hp} (r : R3 K S μ H) {d : D} {v : V} {l : List D} (h : Rep K S d v) (hn : ∀ m, d ≠ .tup m) (e : seqOf μ d = some l) : ∃ a vs, v = .ref a ∧ SqL K H a vs ∧ RepL K S l vs := by
  cases d with
  | lst m => cases e; obtain ⟨a, vs, rfl, h1, h2⟩ := h; exact ⟨a, vs, rfl, (SqL.of (exr_lst r.ex h1)), h2⟩
  | scr m => cases e; obtain ⟨a, vs, rfl, h1, h2⟩ := h; exact ⟨a, vs, rfl, (exr_l r.ex h1), h2⟩
  | tup m => exact absurd rfl (hn m)
  | ref p =>
    have h : v = .ref p := h
    unfold seqOf at e
    dsimp only at e
    split at e
    · cases e
      rename_i hm
      obtain ⟨_, o, h1, vs, rfl, h2⟩ := r.mu p _ hm
      exact ⟨p, vs, h, (SqL.of h1), h2⟩
    · cases e
  | _ => cases e
def dSl (de : DE) (dl dh : DO) : DE := fun δ μ Q => de δ μ fun x δ1 μ1 => dl δ1 μ1 fun lo δ2 μ2 => dh δ2 μ2 fun hi δ3 μ3 => rdSl x lo hi μ3 fun d μ4 => Q d δ3 μ4
theorem cutD_all {xs : List D} {lo hi : Option Int} (h : HT.sIx xs.length 0 lo = 0 ∧ HT.sIx xs.length xs.length hi = xs.length) : cutD xs lo hi = xs := by
  unfold cutD; rw [h.1, h.2]; simp
theorem d_slice {e : Expr} {lo hi : Option Expr} {p2 pos : Pos} {te : TE} {tl th : TO} {de : DE} {dl dh : DO} (he : PD K Z X e te de) (hl : PDO K Z X lo tl dl) (hh : PDO K Z X hi th dh) (hk : X.K = K := by rfl) :
    PD K Z X (.Subscript e (.Slice lo hi none p2) pos) (tSl (rSlAll K) te tl th) (dSl de dl dh) := by
  subst hk
  exact ⟨pe_slice (sl_str.or (sl_tupA.or sl_list)) he.p hl.p hh.p, fun B hB S μ H σ δ Q QD rl k q => by
  refine he.s B hB S μ H σ δ _ _ rl (fun S1 μ1 H1 δ1 x dx e1 r1 hx q1 => ?_) q
  refine hl.s B hB S1 μ1 H1 σ δ1 _ _ r1 (fun S2 μ2 H2 δ2 lo e2 r2 q2 => ?_) q1
  refine hh.s B hB S2 μ2 H2 σ δ2 _ _ r2 (fun S3 μ3 H3 δ3 hi e3 r3 q3 => ?_) q2
  have hx' := Rep.mono (e2.trans e3) _ _ hx
  have ex := (e1.trans e2).trans e3
  rcases q3 with ⟨z, rfl, hz, q⟩ | ⟨l, rfl, q⟩ | ⟨l, hn, e, q⟩
  · exact .inl ⟨z, hx', hz, k S3 μ3 H3 δ3 _ (.str (cutS z lo hi)) ex r3 rfl q⟩
  · obtain ⟨a, vs, rfl, h1, h2⟩ := hx'
    refine .inr (.inl ⟨a, vs, rfl, exr_t r3.r3.ex (SqT.of h1), fun hw => ?_, fun _ p hp => ?_⟩)
    · refine k S3 μ3 H3 δ3 _ (.tup (cutD l lo hi)) ex r3 ⟨a, vs, rfl, h1, ?_⟩ q
      have e' := RepL.length h2
      rw [e'] at hw
      rw [cutD_all hw]
      exact h2
    · obtain ⟨r4, g⟩ := r3.r3.alloc (o := .tup (cutV vs lo hi)) hp
      exact k _ μ3 _ δ3 _ (.tup (cutD l lo hi)) (ex.trans g.ex) (r3.grow g r4) ⟨p, _, rfl, upd_same, RepL.mono g.ex _ _ (RepL.cut h2 lo hi)⟩ q
  · obtain ⟨a, vs, rfl, hs, h2⟩ := seq_isL r3.r3 hx' hn e
    refine .inr (.inr ⟨a, vs, rfl, hs, fun p hp => ?_⟩)
    obtain ⟨r4, g⟩ := r3.r3.alloc (o := .lst (cutV vs lo hi)) hp
    exact k _ μ3 _ δ3 _ (.lst (cutD l lo hi)) (ex.trans g.ex) (r3.grow g r4) ⟨p, _, rfl, upd_same, RepL.mono g.ex _ _ (RepL.cut h2 lo hi)⟩ q⟩
/-! ### built-in calls -/
def rLenA (K : PySem.W.Frag) : List V → Hp → VK → Prop := fun xs H Q => (∃ p ys, xs = [.ref p] ∧ (SqL K H p ys ∨ SqT K H p ys) ∧ Q (.int ys.length) H) ∨ (∃ z, xs = [.str z] ∧ z.length ≤ sizeLine ∧ Q (.int z.length) H)
def rdLen : DC := fun xs μ Q => ∃ x, xs = [x] ∧ ((∃ l, seqOf μ x = some l ∧ Q (.int l.length) μ) ∨ (∃ z, x = .str z ∧ z.length ≤ sizeLine ∧ Q (.int z.length) μ))
theorem RepL.one' {S : Hp} {d : D} {vs : List V} (h : RepL K S [d] vs) : ∃ v, vs = [v] ∧ Rep K S d v := by
  obtain ⟨v, r, rfl, h1, h2⟩ := h
  have h2 : r = [] := h2
  exact ⟨v, by rw [h2], h1⟩
theorem RepL.two' {S : Hp} {d e : D} {vs : List V} (h : RepL K S [d, e] vs) : ∃ v w, vs = [v, w] ∧ Rep K S d v ∧ Rep K S e w := by
  obtain ⟨v, r, rfl, h1, h2⟩ := h
  obtain ⟨w, rfl, h3⟩ := RepL.one' h2
  exact ⟨v, w, rfl, h1, h3⟩
theorem c_len (hk : X.K = K := by rfl) : PDC K X (.builtin "len") (rLenA K) rdLen := by
  subst hk
  exact ⟨call_len_seq.or call_len_str, fun S μ H xs ds Q QD r hx k q => by
  obtain ⟨x, rfl, q⟩ := q
  obtain ⟨v, rfl, hv⟩ := RepL.one' hx
  rcases q with ⟨l, e, q⟩ | ⟨z, rfl, hz, q⟩
  · obtain ⟨a, vs, rfl, hs, h2⟩ := seq_is r hv e
    exact .inl ⟨a, vs, rfl, hs, k S μ H _ (.int l.length) Grow.refl r (by rw [RepL.length h2]; rfl) q⟩
  · have hv : v = .str z := hv
    subst hv
    exact .inr ⟨z, rfl, hz, k S μ H _ (.int z.length) Grow.refl r rfl q⟩⟩
def rMin2 : List V → Hp → VK → Prop := fun xs H Q => ∃ i j, xs = [.int i, .int j] ∧ Q (.int (if j < i then j else i)) H
def rdMax2 : DC := fun xs μ Q => ∃ i j : Int, xs = [.int i, .int j] ∧ Q (.int (max i j)) μ
def rdMin2 : DC := fun xs μ Q => ∃ i j : Int, xs = [.int i, .int j] ∧ Q (.int (min i j)) μ
theorem c_max2 (hc : X.calm = true) : PDC K X (.builtin "max") Evl.rMax2 rdMax2 := ⟨call_max2 hc, fun S μ H xs ds Q QD r hx k q => by
  obtain ⟨i, j, rfl, q⟩ := q
  obtain ⟨v, w, rfl, h1, h2⟩ := RepL.two' hx
  have h1 : v = .int i := h1
  have h2 : w = .int j := h2
  subst h1 h2
  exact ⟨i, j, rfl, k S μ H _ (.int (max i j)) Grow.refl r (show V.int _ = V.int _ by congr 1; rw [Int.max_def]; split <;> split <;> omega) q⟩⟩
theorem c_min2 (hc : X.calm = true) : PDC K X (.builtin "min") rMin2 rdMin2 := ⟨call_min2 hc, fun S μ H xs ds Q QD r hx k q => by
  obtain ⟨i, j, rfl, q⟩ := q
  obtain ⟨v, w, rfl, h1, h2⟩ := RepL.two' hx
  have h1 : v = .int i := h1
  have h2 : w = .int j := h2
  subst h1 h2
  exact ⟨i, j, rfl, k S μ H _ (.int (min i j)) Grow.refl r (show V.int _ = V.int _ by congr 1; rw [Int.min_def]; split <;> split <;> omega) q⟩⟩
def rdAll : DC := fun xs μ Q => ∃ bs : List Bool, xs = [.lst (bs.map .bl)] ∧ Q (.bl (bs.all id)) μ
theorem c_all (hc : X.calm = true) (hk : X.K = K := by rfl) : PDC K X (.builtin "all") (rAll K) rdAll := by
  subst hk
  exact ⟨cr_all hc, fun S μ H xs ds Q QD r hx k q => by
  obtain ⟨bs, rfl, q⟩ := q
  obtain ⟨v, rfl, hv⟩ := RepL.one' hx
  obtain ⟨a, vs, rfl, h1, h2⟩ := hv
  rw [RepL.bl h2] at h1
  exact ⟨a, bs, rfl, SqL.of (exr_lst r.ex h1), k S μ H _ (.bl (bs.all id)) Grow.refl r rfl q⟩⟩
def rdList : DC := fun xs μ Q => ∃ x l, xs = [x] ∧ seqOf μ x = some l ∧ Q (.lst l) μ
def rTupA (K : PySem.W.Frag) : List V → Hp → VK → Prop := fun xs H Q => ∃ p ys, xs = [.ref p] ∧ ((SqL K H p ys ∧ ∀ l, H l = none → Q (.ref l) (upd H l (.tup ys))) ∨ (SqT K H p ys ∧ Q (.ref p) H))
def rdTup : DC := fun xs μ Q => ∃ x l, xs = [x] ∧ seqOf μ x = some l ∧ Q (.tup l) μ
theorem c_tuple (hk : X.K = K := by rfl) : PDC K X (.type "tuple") (rTupA K) rdTup := by
  subst hk
  exact ⟨call_tuple_of, fun S μ H xs ds Q QD r hx k q => by
  obtain ⟨x, l, rfl, e, q⟩ := q
  obtain ⟨v, rfl, hv⟩ := RepL.one' hx
  by_cases hn : ∃ m, x = .tup m
  · obtain ⟨m, rfl⟩ := hn
    cases e
    obtain ⟨a, vs, rfl, h1, h2⟩ := hv
    exact ⟨a, vs, rfl, .inr ⟨exr_t r.ex (SqT.of h1), k S μ H _ (.tup l) Grow.refl r ⟨a, vs, rfl, h1, h2⟩ q⟩⟩
  · obtain ⟨a, vs, rfl, hs, h2⟩ := seq_isL r hv (fun m z => hn ⟨m, z⟩) e
    refine ⟨a, vs, rfl, .inl ⟨hs, fun p hp => ?_⟩⟩
    obtain ⟨r4, g⟩ := r.alloc (o := .tup vs) hp
    exact k _ μ _ _ (.tup l) g r4 ⟨p, vs, rfl, upd_same, RepL.mono g.ex _ _ h2⟩ q⟩
/-- isinstance(x, T), both built-in -/
def tyD : D → Option String
  | .non => some "NoneType"
  | .bl _ => some "bool"
  | .int _ => some "int"
  | .str _ => some "str"
  | .tup _ => some "tuple"
  | .lst _ => some "list"
  | .dct _ => some "dict"
  | _ => none
end Dl
namespace Dl
open PySem PySem.Spec PyProof.Rows L2
variable {X : Cx} {K : PySem.W.Frag} {Z : Bs}
/-! ### fresh objects -/
abbrev DF := Ss → Mem → (MO → Ss → Mem → Prop) → Prop
def SimF (K : PySem.W.Frag) (Z : Bs) (te : TE) (df : DF) : Prop := ∀ (B : Bs) (_ : SameB Z B) (S : Hp) (μ : Mem) (H : Hp) (σ : L2.St) (δ : Ss) (Q : VK) (QF : MO → Ss → Mem → Prop), Rel K B S μ H σ δ →
  (∀ S' μ' H' δ' p o m, Ex S S' → Rel K B S' μ' H' σ δ' → Fresh B S' μ' H' σ δ' p o → RepM K S' m o → QF m δ' μ' → Q (.ref p) H') → df δ μ QF → te σ H Q
structure PDF (K : PySem.W.Frag) (Z : Bs) (X : Cx) (e : Expr) (te : TE) (df : DF) : Prop where
  p : PE X e te
  s : SimF K Z te df
def dIce (df : DF) : DE := fun δ μ Q => df δ μ fun m δ1 μ1 => Q (frozen m) δ1 μ1
theorem simIce {te : TE} {df : DF} (h : SimF K Z te df) : SimE K Z te (dIce df) := fun B hB S μ H σ δ Q QD rl k q => by
  refine h B hB S μ H σ δ _ _ rl (fun S1 μ1 H1 δ1 p o m e1 r1 f hm q1 => ?_) q
  obtain ⟨e2, r2, hr⟩ := r1.iceF f hm
  exact k _ μ1 H1 δ1 _ (frozen m) (e1.trans e2) r2 hr q1
theorem d_ice {e : Expr} {te : TE} {df : DF} (h : PDF K Z X e te df) : PD K Z X e te (dIce df) := ⟨h.p, simIce h.s⟩
def fLst (da : DA) : DF := fun δ μ Q => da δ μ fun xs δ1 μ1 => xs.length ≤ sizeLine ∧ Q (.lst xs) δ1 μ1
theorem simFLst {ta : TA} {da : DA} (h : SimA K Z ta da) : SimF K Z (tLst ta) (fLst da) := fun B hB S μ H σ δ Q QD rl k q => by
  refine h B hB S μ H σ δ _ _ rl (fun S1 μ1 H1 δ1 xs ds e1 r1 hx q1 => ?_) q
  refine ⟨by rw [RepL.length hx]; exact q1.1, fun p hp => ?_⟩
  obtain ⟨r2, f⟩ := r1.fresh (o := .lst xs) hp
  exact k S1 μ1 _ δ1 p _ (.lst ds) e1 r2 f ⟨xs, rfl, hx⟩ q1.2
theorem f_lst {es : List Expr} {pos} {ta : TA} {da : DA} (h : PDA K Z X es ta da) : PDF K Z X (.List es pos) (tLst ta) (fLst da) := ⟨pe_lst h.p, simFLst h.s⟩
/-! ### targets -/
def gdName (i : Nat) : DG := fun d δ μ Q => Q (δ.set i (.val d)) μ
theorem simGName {i : Nat} : SimG K Z (gName i) (gdName i) := fun B hB S μ H σ δ v d Q QD rl h k q => k S μ H _ _ (Ex.refl S) (rl.set h) q
theorem g_name {i : Nat} {x : Str} {pos} (hN : X.N.Nodup) (hi : X.N[i]? = some x := by rfl) (hx : Loc X.env.scope x := by first | exact Or.inl rfl | exact Or.inr rfl) (hf : X.fn x = true ∨ X.env.scope.names.lookup x = some .local := by first | exact .inl rfl | exact .inr rfl | assumption) : PDG K Z X (.Name x pos) (gName i) (gdName i) :=
  ⟨pg_name hN hi hx hf, simGName⟩
def gdNil : DGs := fun ds δ μ Q => ds = [] ∧ Q δ μ
def gdCons (t : DG) (u : DGs) : DGs := fun ds δ μ Q => ∃ d r, ds = d :: r ∧ t d δ μ fun δ' μ' => u r δ' μ' Q
theorem gs_nil : PDGs K Z X [] gNil gdNil := ⟨pgs_nil, fun B hB S μ H σ δ v d Q QD rl h k q => by
  obtain ⟨rfl, q⟩ := q
  exact ⟨h, k S μ H σ δ (Ex.refl S) rl q⟩⟩
def gdTup (n : Nat) (t : DGs) : DG := fun d δ μ Q => ∃ l, d = .tup l ∧ l.length = n ∧ t l δ μ Q
theorem simGTup {n : Nat} {t : TGs} {d : DGs} (h : SimGs K Z t d) : SimG K Z (gTup K n t) (gdTup n d) := fun B hB S μ H σ δ v ds Q QD rl hr k q => by
  obtain ⟨l, rfl, hl, q⟩ := q
  obtain ⟨a, vs, rfl, h1, h2⟩ := hr
  exact ⟨a, vs, rfl, exr_t rl.r3.ex (SqT.of h1), by rw [RepL.length h2]; exact hl, h B hB S μ H σ δ vs l _ _ rl h2 k q⟩
/-! ### statements -/
def dNext : DS := fun DD δ μ => DD.nx δ μ
def dSeq (t u : DS) : DS := fun DD δ μ => t { DD with nx := u DD } δ μ
theorem ss_nil : PDSs K Z X [] tNext dNext := ⟨pss_nil, fun B hB S μ H σ δ E DD rl lf q => lf.nx S μ H σ δ rl q⟩
theorem ss_cons {st : Stmt} {rest : List Stmt} {t u : TS} {d du : DS} (h1 : PDS K Z X st t d) (h2 : PDSs K Z X rest u du) : PDSs K Z X (st :: rest) (tSeq t u) (dSeq d du) := ⟨pss_cons h1.p h2.p, fun B hB S μ H σ δ E DD rl lf q => by
  refine h1.s B hB S μ H σ δ _ { DD with nx := du DD } rl ⟨fun S1 μ1 H1 σ1 δ1 r1 q1 => ?_, lf.rt, lf.bk, lf.ct⟩ q
  exact h2.s B hB S1 μ1 H1 σ1 δ1 E DD r1 lf q1⟩
theorem ss_one {st : Stmt} {t : TS} {d : DS} (h1 : PDS K Z X st t d) : PDSs K Z X [st] t d := ⟨pss_one h1.p, h1.s⟩
def dBreak : DS := fun DD δ μ => DD.bk δ μ
def dCont : DS := fun DD δ μ => DD.ct δ μ
def dDrop (de : DE) : DS := fun DD δ μ => de δ μ fun _ δ1 μ1 => DD.nx δ1 μ1
theorem s_expr {e : Expr} {pos} {te : TE} {de : DE} (h : PD K Z X e te de) (hs : swapsWith e none pos.line X.env = pure false := by rfl) : PDS K Z X (.Expr e pos) (tDrop te) (dDrop de) := ⟨ps_expr h.p hs, fun B hB S μ H σ δ E DD rl lf q =>
  h.s B hB S μ H σ δ _ _ rl (fun S1 μ1 H1 δ1 v d e1 r1 _ q1 => lf.nx S1 μ1 H1 σ δ1 r1 q1) q⟩
def dRet (de : DE) : DS := fun DD δ μ => de δ μ fun d _ μ1 => DD.rt d μ1
theorem s_ret {e : Expr} {pos} {te : TE} {de : DE} (h : PD K Z X e te de) : PDS K Z X (.Return (some e) pos) (tRet te) (dRet de) := ⟨ps_ret h.p, fun B hB S μ H σ δ E DD rl lf q =>
  h.s B hB S μ H σ δ _ _ rl (fun S1 μ1 H1 δ1 v d e1 r1 hv q1 => lf.rt S1 μ1 H1 v d r1.r3 r1.gr hv q1) q⟩
def dRetN : DS := fun DD _ μ => DD.rt .non μ
def dIfS (c : DT) (t u : DS) : DS := fun DD δ μ => c δ μ fun b δ1 μ1 => if b = true then t DD δ1 μ1 else u DD δ1 μ1
theorem s_if {c : Expr} {a b : List Stmt} {pos} {tc : TT} {t u : TS} {dc : DT} {d du : DS} (hc : PDT K Z X c tc dc) (ha : PDSs K Z X a t d) (hb : PDSs K Z X b u du) : PDS K Z X (.If c a b pos) (tIfS tc t u) (dIfS dc d du) := ⟨ps_if hc.p ha.p hb.p, fun B hB S μ H σ δ E DD rl lf q => by
  refine hc.s B hB S μ H σ δ _ _ rl (fun S1 μ1 H1 δ1 b e1 r1 q1 => ?_) q
  cases b with
  | true => rw [if_pos rfl] at q1 ⊢; exact ha.s B hB S1 μ1 H1 σ δ1 E DD r1 lf q1
  | false => rw [if_neg Bool.false_ne_true] at q1 ⊢; exact hb.s B hB S1 μ1 H1 σ δ1 E DD r1 lf q1⟩
def dAsg (de : DE) (g : DG) : DS := fun DD δ μ => de δ μ fun d δ1 μ1 => g d δ1 μ1 DD.nx
theorem simAsg {te : TE} {g : TG} {de : DE} {dg : DG} (h : SimE K Z te de) (hg : SimG K Z g dg) : SimS K Z (tAsg te g) (dAsg de dg) := fun B hB S μ H σ δ E DD rl lf q =>
  h B hB S μ H σ δ _ _ rl (fun S1 μ1 H1 δ1 v d e1 r1 hv q1 => hg B hB S1 μ1 H1 σ δ1 v d _ _ r1 hv (fun S2 μ2 H2 σ2 δ2 e2 r2 q2 => lf.nx S2 μ2 H2 σ2 δ2 r2 q2) q1) q
theorem s_asg {tg e : Expr} {pos} {te : TE} {g : TG} {de : DE} {dg : DG} (he : PD K Z X e te de) (hg : PDG K Z X tg g dg) (hs : swapsWithSole [tg] e pos.line X.env = pure false := by rfl) (hw : swappedStores [tg] e X.env = pure none := by rfl)
    (h1 : (assignEach [tg] X.env).map (·.2) = [assign tg X.env] := by rfl) : PDS K Z X (.Assign [tg] e pos) (tAsg te g) (dAsg de dg) := ⟨ps_asg he.p hg.p hs hw h1, simAsg he.s hg.s⟩
def dSet (i : Nat) (de : DE) : DS := fun DD δ μ => de δ μ fun d δ1 μ1 => DD.nx (δ1.set i (.val d)) μ1
theorem s_set {i : Nat} {x : Str} {e : Expr} {pos pos' : Pos} {te : TE} {de : DE} (hN : X.N.Nodup) (he : PD K Z X e te de) (hi : X.N[i]? = some x := by rfl) (hx : Loc X.env.scope x := by first | exact Or.inl rfl | exact Or.inr rfl) (hs : swapsWith e (some (.Name x pos')) pos.line X.env = pure false := by rfl)
    (hf : X.fn x = true ∨ X.env.scope.names.lookup x = some .local := by first | exact .inl rfl | exact .inr rfl | assumption) : PDS K Z X (.Assign [.Name x pos'] e pos) (tAsg te (gName i)) (dSet i de) := ⟨ps_set hN hi hx he.p hs hf, simAsg he.s simGName⟩
def dOwn (i : Nat) (df : DF) : DS := fun DD δ μ => df δ μ fun m δ1 μ1 => DD.nx (δ1.set i (.own m)) μ1
theorem simOwn {i : Nat} {te : TE} {df : DF} (h : SimF K Z te df) : SimS K Z (tAsg te (gName i)) (dOwn i df) := fun B hB S μ H σ δ E DD rl lf q =>
  h B hB S μ H σ δ _ _ rl (fun S1 μ1 H1 δ1 p o m e1 r1 f hm q1 => lf.nx S1 μ1 H1 _ _ (r1.ownF f hm) q1) q
theorem s_own {i : Nat} {x : Str} {e : Expr} {pos pos' : Pos} {te : TE} {df : DF} (hN : X.N.Nodup) (he : PDF K Z X e te df) (hi : X.N[i]? = some x := by rfl) (hx : Loc X.env.scope x := by first | exact Or.inl rfl | exact Or.inr rfl) (hs : swapsWith e (some (.Name x pos')) pos.line X.env = pure false := by rfl)
    (hf : X.fn x = true ∨ X.env.scope.names.lookup x = some .local := by first | exact .inl rfl | exact .inr rfl | assumption) : PDS K Z X (.Assign [.Name x pos'] e pos) (tAsg te (gName i)) (dOwn i df) := ⟨ps_set hN hi hx he.p hs hf, simOwn he.s⟩
/-- x op= e of ints -/
def dAug (i : Nat) (de : DE) (f : Int → Int → Int) : DS := fun DD δ μ => ∃ n, δ[i]? = some (.val (.int n)) ∧ de δ μ fun d δ1 μ1 => ∃ m, d = .int m ∧ DD.nx (δ1.set i (.val (.int (f n m)))) μ1
/-! ### append -/
def dApp (i : Nat) (de : DE) : DS := fun DD δ μ => (∃ l, δ[i]? = some (.own (.lst l))) ∧ de δ μ fun d δ1 μ1 => ∃ l, δ1[i]? = some (.own (.lst l)) ∧ l.length < sizeLine ∧ DD.nx (δ1.set i (.own (.lst (l ++ [d])))) μ1
theorem Rel.ownAt {B : Bs} {S : Hp} {μ : Mem} {H : Hp} {σ : L2.St} {δ : Ss} (r : Rel K B S μ H σ δ) {i : Nat} {m : MO} (h : δ[i]? = some (.own m)) : ∃ p o, σ[i]? = some (some (.ref p)) ∧ H p = some o ∧ RepM K S m o := by
  obtain ⟨x, e1, p, o, rfl, _, _, _, h4, h5⟩ := r.sl i _ h
  exact ⟨p, o, e1, h4, h5⟩
theorem simApp {i : Nat} {te : TE} {de : DE} (h : SimE K Z te de) : SimS K Z (tDrop (tBM K "list" rAppend (tVar i) (tCons te tNil))) (dApp i de) := fun B hB S μ H σ δ E DD rl lf q => by
  obtain ⟨⟨l, e⟩, q⟩ := q
  obtain ⟨p, o, e1, h1, vs, rfl, h2⟩ := rl.ownAt e
  refine ⟨.ref p, e1, .inl ⟨rfl, vs, SqL.of h1⟩, ?_⟩
  refine h B hB S μ H σ δ _ _ rl (fun S1 μ1 H1 δ1 v d e2 r1 hv q1 => ?_) q
  obtain ⟨l', e3, hl, q1⟩ := q1
  obtain ⟨p', o', e4, h4, ws, rfl, h5⟩ := r1.ownAt e3
  rw [e1] at e4
  cases e4
  exact ⟨p, ws, v, rfl, rfl, h4, by rw [RepL.length h5]; exact hl, lf.nx S1 μ1 _ σ _ (r1.write e3 e1 (m := .lst (l' ++ [d])) ⟨ws ++ [v], rfl, RepL.append h5 (RepL.one hv)⟩) q1⟩
/-! ### less is known -/
def Le : Ss → Ss → Prop
  | [], _ => True
  | .no :: a, _ :: b => Le a b
  | s :: a, t :: b => s = t ∧ Le a b
  | _ :: _, [] => False
theorem Le.at : ∀ {a b : Ss} {i : Nat} {s : SL}, Le a b → a[i]? = some s → (∃ t, b[i]? = some t) ∧ (s = .no ∨ b[i]? = some s)
  | [], b, i, s, _, e => by simp at e
  | .no :: a, [], i, s, h, e => by cases h
  | .no :: a, t :: b, 0, s, h, e => by
    simp at e
    exact ⟨⟨t, by simp⟩, .inl e.symm⟩
  | .no :: a, t :: b, i + 1, s, h, e => by
    have z := Le.at (a := a) (b := b) (i := i) (s := s) h (by simpa using e)
    simpa using z
  | .val d :: a, [], i, s, h, e => by cases h
  | .val d :: a, t :: b, 0, s, h, e => by
    simp at e
    have h : SL.val d = t ∧ _ := h
    rw [← h.1, ← e]
    exact ⟨⟨_, rfl⟩, .inr rfl⟩
  | .val d :: a, t :: b, i + 1, s, h, e => by
    have h : SL.val d = t ∧ Le a b := h
    have z := Le.at (a := a) (b := b) (i := i) (s := s) h.2 (by simpa using e)
    simpa using z
  | .own d :: a, [], i, s, h, e => by cases h
  | .own d :: a, t :: b, 0, s, h, e => by
    simp at e
    have h : SL.own d = t ∧ _ := h
    rw [← h.1, ← e]
    exact ⟨⟨_, rfl⟩, .inr rfl⟩
  | .own d :: a, t :: b, i + 1, s, h, e => by
    have h : SL.own d = t ∧ Le a b := h
    have z := Le.at (a := a) (b := b) (i := i) (s := s) h.2 (by simpa using e)
    simpa using z
theorem Le.own {a b : Ss} {i : Nat} {m : MO} (h : Le a b) (e : a[i]? = some (.own m)) : b[i]? = some (.own m) := by
  rcases (h.at e).2 with z | z
  · cases z
  · exact z
theorem Rel.le {B : Bs} {S : Hp} {μ : Mem} {H : Hp} {σ : L2.St} {δ δ0 : Ss} (r : Rel K B S μ H σ δ) (h : Le δ0 δ) : Rel K B S μ H σ δ0 :=
  ⟨r.r3, r.gr, r.lo, fun i s e => by
    obtain ⟨⟨t, e1⟩, e2⟩ := h.at e
    obtain ⟨x, e3, h3⟩ := r.sl i t e1
    refine ⟨x, e3, ?_⟩
    rcases e2 with rfl | e2
    · trivial
    · rw [e1] at e2; cases e2; exact h3, fun i j m n hij e1 e2 => r.dj i j m n hij (h.own e1) (h.own e2), r.fr, fun i m p e1 e2 => r.fd i m p (h.own e1) e2⟩
theorem Le.refl : ∀ a : Ss, Le a a
  | [] => trivial
  | .no :: a => Le.refl a
  | .val _ :: a => ⟨rfl, Le.refl a⟩
  | .own _ :: a => ⟨rfl, Le.refl a⟩
/-- less is known of the memory -/
def LeM (μ0 μ : Mem) : Prop := ∀ a m, μ0 a = some m → μ a = some m
theorem LeM.refl (μ : Mem) : LeM μ μ := fun _ _ h => h
theorem LeM.trans {a b c : Mem} (x : LeM a b) (y : LeM b c) : LeM a c := fun p m h => y p m (x p m h)
theorem LeM.new {μ : Mem} {p : Addr} {m : MO} (h : μ p = none) : LeM μ (updM μ p m) := fun a n e => by
  rw [updM_ne (fun z => by rw [z, h] at e; cases e)]; exact e
theorem Grow.le {S : Hp} {μ : Mem} {H : Hp} {S' : Hp} {μ' μ0 : Mem} {H' : Hp} (g : Grow S μ H S' μ' H') (h : LeM μ0 μ') : Grow S μ H S' μ0 H' := ⟨g.ex, g.st, g.kp, fun a m e => g.me a m (h a m e), g.th⟩
theorem R3.leM {S : Hp} {μ μ0 : Mem} {H : Hp} (r : R3 K S μ H) (h : LeM μ0 μ) : R3 K S μ0 H := ⟨r.ex, fun a m e => r.mu a m (h a m e), r.tb.d h⟩
theorem Rel.leM {B : Bs} {S : Hp} {μ μ0 : Mem} {H : Hp} {σ : L2.St} {δ : Ss} (r : Rel K B S μ H σ δ) (h : LeM μ0 μ) : Rel K B S μ0 H σ δ := by
  have nn : ∀ p, μ p = none → μ0 p = none := fun p hp => by
    cases e : μ0 p with
    | none => rfl
    | some m => rw [h p m e] at hp; cases hp
  refine ⟨r.r3.leM h, r.gr.le h, r.lo, fun i s e => ?_, r.dj, fun p m e => ?_, r.fd⟩
  · obtain ⟨x, e1, h1⟩ := r.sl i s e
    refine ⟨x, e1, ?_⟩
    cases s with
    | no => trivial
    | val d => exact h1
    | own n =>
      obtain ⟨p, o, h2, h3, h4, h5, h6⟩ := h1
      exact ⟨p, o, h2, h3, h4, nn p h5, h6⟩
  · obtain ⟨o, h1, h2, h3, h4⟩ := r.fr p m e
    exact ⟨o, h1, h2, nn p h3, h4⟩
/-- a word, less being known -/
def Wn (W : Ss → Mem → Prop) : Ss → Mem → Prop := fun δ μ => ∃ δ0 μ0, W δ0 μ0 ∧ Le δ0 δ ∧ LeM μ0 μ
theorem wn {W : Ss → Mem → Prop} {δ0 δ : Ss} {μ : Mem} (h : W δ0 μ) (l : Le δ0 δ) : Wn W δ μ := ⟨δ0, μ, h, l, LeM.refl μ⟩
/-- what is wanted, less being known of the memory -/
def Qw (Q : QM) : QM := fun d μ => ∃ μ0, LeM μ0 μ ∧ Q d μ0
theorem qw {Q : QM} {d : D} {μ μ0 : Mem} (h : Q d μ0) (l : LeM μ0 μ) : Qw Q d μ := ⟨μ0, l, h⟩
def Ew (E : DX) : DX := fun c fs μ => ∃ μ0, LeM μ0 μ ∧ E c fs μ0
/-- the rest with a word between -/
def dCut (t u : DS) : DS := fun DD δ μ => ∃ M : Ss → Mem → Prop, t { DD with nx := Wn M } δ μ ∧ ∀ δ' μ', M δ' μ' → u DD δ' μ'
theorem ss_cut {st : Stmt} {rest : List Stmt} {t u : TS} {d du : DS} (h1 : PDS K Z X st t d) (h2 : PDSs K Z X rest u du) : PDSs K Z X (st :: rest) (tSeq t u) (dCut d du) := ⟨pss_cons h1.p h2.p, fun B hB S μ H σ δ E DD rl lf q => by
  obtain ⟨M, q, k⟩ := q
  refine h1.s B hB S μ H σ δ _ { DD with nx := Wn M } rl ⟨fun S1 μ1 H1 σ1 δ1 r1 ⟨δ0, μ0, q1, l1, m1⟩ => ?_, lf.rt, lf.bk, lf.ct⟩ q
  exact h2.s B hB S1 μ0 H1 σ1 δ0 E DD ((r1.le l1).leM m1) lf (k δ0 μ0 q1)⟩
/-! ### for -/
def dFor (di : DI) (dg : DG) (db : DS) : DS := fun DD δ μ => di δ μ fun ds G δ1 μ1 => ∃ W : Nat → Ss → Mem → Prop, Wn (W 0) δ1 μ1 ∧ (∀ i δ μ, i ≤ ds.length → W i δ μ → G μ) ∧
  (∀ i d δ μ, ds[i]? = some d → W i δ μ → dg d δ μ fun δ2 μ2 => db { DD with nx := Wn (W (i + 1)), ct := Wn (W (i + 1)), bk := DD.nx } δ2 μ2) ∧ (∀ δ μ, W ds.length δ μ → DD.nx δ μ)
theorem simFor {wi : TI} {g : TG} {tb : TS} {di : DI} {dg : DG} {db : DS} (hi : SimI K Z wi di) (hg : SimG K Z g dg) (hb : SimS K Z tb db) : SimS K Z (tFor wi g tb) (dFor di dg db) := fun B hB S μ H σ δ E DD rl lf q => by
  refine hi B hB S μ H σ δ _ _ rl (fun S1 μ1 H1 δ1 J ds G e1 r1 wk q1 => ?_) q
  obtain ⟨W, ⟨δa, μa, w0, la, ma⟩, hG, turn, fin⟩ := q1
  have lo1 : Ex B.L S1 := r1.lo
  refine ⟨fun i m σ H => m = ds.length - i ∧ i ≤ ds.length ∧ ∃ S μ δ, Rel K { B with L := S1 } S μ H σ δ ∧ W i δ μ, ⟨ds.length, by simp, Nat.zero_le _, S1, μa, δa, ((r1.low (Ex.refl S1)).le la).leM ma, w0⟩, ?_⟩
  rintro i m σ2 H2 ⟨rfl, hi, S2, μ2, δ2, r2, w2⟩
  have g2 := hG i δ2 μ2 hi w2
  by_cases hlt : i < ds.length
  · refine .inr ⟨wk.goes S2 μ2 H2 i r2.lo r2.r3 g2 hlt, fun σ' H' => ∃ S μ δ, Rel K { B with L := S1 } S μ H' σ' δ ∧ W (i + 1) δ μ, fun σ' H' ⟨S3, μ3, δ3, r3, w3⟩ => ⟨ds.length - (i + 1), by omega, rfl, hlt, S3, μ3, δ3, r3, w3⟩, fun x H' y => ?_⟩
    have hd : ds[i]? = some ds[i] := by simp [hlt]
    obtain ⟨S3, g3, r3, hx⟩ := wk.yields S2 μ2 H2 i _ x H' r2.lo r2.r3 g2 hd y
    have r3' := r2.grow g3 r3
    refine hg { B with L := S1 } (hB.low r1.lo) S3 μ2 H' σ2 δ2 x _ _ _ r3' hx (fun S4 μ4 H4 σ4 δ4 e4 r4 q4 => ?_) (turn i _ δ2 μ2 hd w2)
    refine hb { B with L := S1 } (hB.low r1.lo) S4 μ4 H4 σ4 δ4 _ { DD with nx := Wn (W (i + 1)), ct := Wn (W (i + 1)), bk := DD.nx } r4 ⟨fun S5 μ5 H5 σ5 δ5 r5 ⟨δ0, μ0, q5, l5, m5⟩ => ⟨S5, μ0, δ0, (r5.le l5).leM m5, q5⟩, fun S5 μ5 H5 v d r5 g5 hv q5 => lf.rt S5 μ5 H5 v d r5 g5 hv q5, fun S5 μ5 H5 σ5 δ5 r5 q5 => lf.nx S5 μ5 H5 σ5 δ5 (r5.low (L := B.L) (lo1.trans r5.lo)) q5, fun S5 μ5 H5 σ5 δ5 r5 ⟨δ0, μ0, q5, l5, m5⟩ => ⟨S5, μ0, δ0, (r5.le l5).leM m5, q5⟩⟩ q4
  · have e : i = ds.length := by omega
    subst e
    exact .inl ⟨wk.stops S2 μ2 H2 r2.lo r2.r3 g2, lf.nx S2 μ2 H2 σ2 δ2 (r2.low (L := B.L) (lo1.trans r2.lo)) (fin δ2 μ2 w2)⟩
theorem s_for {tg iter : Expr} {body : List Stmt} {wi : TI} {g : TG} {tb : TS} {di : DI} {dg : DG} {db : DS} {pos : Pos} (hp : PassesOwn (model X.prog X.w) X.A X.env X.xe) (hc : X.calm = true) (hi : PDI K Z X tg iter wi di) (hg : PDG K Z X tg g dg) (hb : PDSs K Z X body tb db)
    (hs : ∀ x, foldedSetIterable iter X.env x = pure x := by intro _; rfl) : PDS K Z X (.For tg iter body [] pos) (tFor wi g tb) (dFor di dg db) := ⟨ps_for hp hc hi.p hg.p hb.p hs, simFor hi.s hg.s hb.s⟩
/-! what is walked -/
def diSeq (de : DE) : DI := fun δ μ Q => de δ μ fun d δ1 μ1 => ∃ l, (d = .lst l ∨ d = .scr l) ∧ Q l (fun _ => True) δ1 μ1
theorem wk_list {S : Hp} {a : Addr} {vs : List V} {l : List D} (h1 : SqL K S a vs) (h2 : RepL K S l vs) : Wk K S (Itl K a) l (fun _ => True) where
  goes := fun S' μ H i e r _ hi => by
    have hi' : i < vs.length := by rw [RepL.length h2]; exact hi
    exact ⟨vs, vs[i], exr_l r.ex (ex_l e h1), by simp [hi']⟩
  stops := fun S' μ H e r _ => ⟨vs, exr_l r.ex (ex_l e h1), by rw [RepL.length h2]; exact Nat.le_refl _⟩
  yields := fun S' μ H i d x H' e r _ hd y => by
    obtain ⟨rfl, y⟩ := y
    have y := y vs (exr_l r.ex (ex_l e h1))
    obtain ⟨v, e1, hv⟩ := RepL.get h2 hd
    rw [e1] at y
    cases y
    exact ⟨S', Grow.refl, r, Rep.mono e _ _ hv⟩
def diTup (de : DE) : DI := fun δ μ Q => de δ μ fun d δ1 μ1 => ∃ l, d = .tup l ∧ Q l (fun _ => True) δ1 μ1
theorem wk_tup {S : Hp} {a : Addr} {vs : List V} {l : List D} (h1 : SqT K S a vs) (h2 : RepL K S l vs) : Wk K S (Itt K a) l (fun _ => True) where
  goes := fun S' μ H i e r _ hi => by
    have hi' : i < vs.length := by rw [RepL.length h2]; exact hi
    exact ⟨vs, vs[i], exr_t r.ex (ex_t e h1), by simp [hi']⟩
  stops := fun S' μ H e r _ => ⟨vs, exr_t r.ex (ex_t e h1), by rw [RepL.length h2]; exact Nat.le_refl _⟩
  yields := fun S' μ H i d x H' e r _ hd y => by
    obtain ⟨rfl, y⟩ := y
    have y := y vs (exr_t r.ex (ex_t e h1))
    obtain ⟨v, e1, hv⟩ := RepL.get h2 hd
    rw [e1] at y
    cases y
    exact ⟨S', Grow.refl, r, Rep.mono e _ _ hv⟩
theorem i_tup {tg e : Expr} {te : TE} {de : DE} (h : PD K Z X e te de) (hk : X.K = K := by rfl) : PDI K Z X tg e (iTup K te) (diTup de) := by
  subst hk
  exact ⟨pi_tup h.p, fun B hB S μ H σ δ Q QD rl k q => by
  refine h.s B hB S μ H σ δ _ _ rl (fun S1 μ1 H1 δ1 v d e1 r1 hv q1 => ?_) q
  obtain ⟨l, rfl, q1⟩ := q1
  obtain ⟨a, vs, rfl, hl, h2⟩ := hv
  exact ⟨a, rfl, ⟨vs, exr_t r1.r3.ex (SqT.of hl)⟩, k S1 μ1 H1 δ1 _ l _ e1 r1 (wk_tup (SqT.of hl) h2) q1⟩⟩
def rangeD (lo : Int) (n : Nat) : List D := (List.range n).map fun i => D.int (lo + (i : Nat))
theorem rangeD_len (lo : Int) (n : Nat) : (rangeD lo n).length = n := by unfold rangeD; simp
theorem rangeD_get {lo : Int} {n i : Nat} {d : D} (h : (rangeD lo n)[i]? = some d) : i < n ∧ d = .int (lo + (i : Nat)) := by
  unfold rangeD at h
  rw [List.getElem?_map] at h
  by_cases hi : i < n
  · rw [List.getElem?_range hi] at h
    exact ⟨hi, (Option.some.inj h).symm⟩
  · rw [List.getElem?_eq_none (by simpa using hi)] at h
    cases h
theorem wk_range {S : Hp} {lo : Int} {n : Nat} : Wk K S (Itr lo n) (rangeD lo n) (fun _ => True) where
  goes := fun S' μ H i e r _ hi => by rw [rangeD_len] at hi; exact hi
  stops := fun S' μ H e r _ => by rw [rangeD_len]; exact Nat.le_refl _
  yields := fun S' μ H i d x H' e r _ hd y => by
    obtain ⟨rfl, rfl⟩ := y
    obtain ⟨_, rfl⟩ := rangeD_get hd
    exact ⟨S', Grow.refl, r, rfl⟩
def diRng1 (da : DA) : DI := fun δ μ Q => da δ μ fun xs δ1 μ1 => ∃ j : Int, xs = [.int j] ∧ -(2 ^ 62) ≤ j ∧ j < 2 ^ 62 ∧ Q (rangeD 0 j.toNat) (fun _ => True) δ1 μ1
def diRng2 (da : DA) : DI := fun δ μ Q => da δ μ fun xs δ1 μ1 => ∃ i j : Int, xs = [.int i, .int j] ∧ (-(2 ^ 62) ≤ i ∧ i < 2 ^ 62 ∧ -(2 ^ 62) ≤ j ∧ j < 2 ^ 62) ∧ Q (rangeD i (j - i).toNat) (fun _ => True) δ1 μ1
theorem i_range1 {tg a : Expr} {p pos : Pos} {ta : TA} {da : DA} (hg : Gl X "range") (hm : X.mg "range" = none) (ha : PDA K Z X [a] ta da) (hs : starEach [a] X.env = [(false, eval a X.env)] := by rfl) : PDI K Z X tg (.Call (.Name "range" p) [a] [] pos) (iRng1 ta) (diRng1 da) := ⟨pi_range1 hg hm ha.p hs, fun B hB S μ H σ δ Q QD rl k q => by
  refine ha.s B hB S μ H σ δ _ _ rl (fun S1 μ1 H1 δ1 vs ds e1 r1 hv q1 => ?_) q
  obtain ⟨j, rfl, h1, h2, q1⟩ := q1
  obtain ⟨v, rfl, hw⟩ := RepL.one' hv
  have hw : v = .int j := hw
  subst hw
  exact ⟨j, rfl, h1, h2, k S1 μ1 H1 δ1 _ _ _ e1 r1 wk_range q1⟩⟩
def signs (z : Str) : List D := z.cps.toList.map fun c => D.str ⟨#[c]⟩
def diStr (de : DE) : DI := fun δ μ Q => de δ μ fun d δ1 μ1 => ∃ z, d = .str z ∧ Q (signs z) (fun _ => True) δ1 μ1
theorem signs_len (z : Str) : (signs z).length = z.cps.size := by unfold signs; simp
theorem wk_str {S : Hp} {z : Str} : Wk K S (Its z) (signs z) (fun _ => True) where
  goes := fun S' μ H i e r _ hi => by rw [signs_len] at hi; exact hi
  stops := fun S' μ H e r _ => by rw [signs_len]; exact Nat.le_refl _
  yields := fun S' μ H i d x H' e r _ hd y => by
    obtain ⟨rfl, c, hc, rfl⟩ := y
    unfold signs at hd
    rw [List.getElem?_map, Array.getElem?_toList, hc] at hd
    cases hd
    exact ⟨S', Grow.refl, r, rfl⟩
theorem i_str {tg e : Expr} {te : TE} {de : DE} (h : PD K Z X e te de) : PDI K Z X tg e (iStr te) (diStr de) := ⟨pi_str h.p, fun B hB S μ H σ δ Q QD rl k q => by
  refine h.s B hB S μ H σ δ _ _ rl (fun S1 μ1 H1 δ1 v d e1 r1 hv q1 => ?_) q
  obtain ⟨z, rfl, q1⟩ := q1
  exact ⟨z, hv, k S1 μ1 H1 δ1 _ _ _ e1 r1 wk_str q1⟩⟩
/-! ### comprehensions -/
def wipeD (δ : Ss) : List Nat → Ss
  | [] => δ
  | v :: vs => (wipeD δ vs).set v .no
theorem Rel.wipe {B : Bs} {S : Hp} {μ : Mem} {H : Hp} {σ : L2.St} {δ : Ss} (r : Rel K B S μ H σ δ) : ∀ vs, Rel K B S μ H (L2.wipe σ vs) (wipeD δ vs)
  | [] => r
  | v :: vs => (Rel.wipe r vs).forget
def noOwn (δ : Ss) (vs : List Nat) : Bool := vs.all fun v => match δ[v]? with
  | some (.own _) => false
  | _ => true
theorem noOwn_at {δ : Ss} {vs : List Nat} (h : noOwn δ vs = true) {i : Nat} (hi : i ∈ vs) (m : MO) : δ[i]? ≠ some (.own m) := fun e => by
  have z := List.all_eq_true.mp h i hi
  rw [e] at z
  cases z
theorem wipeD_at {δ : Ss} {i : Nat} : ∀ {vs : List Nat}, i ∉ vs → (wipeD δ vs)[i]? = δ[i]?
  | [], _ => rfl
  | v :: vs, h => by
    unfold wipeD
    rw [List.getElem?_set_ne (fun e => h (by rw [e]; exact List.mem_cons_self))]
    exact wipeD_at (fun e => h (List.mem_cons_of_mem _ e))
theorem wipe_at {σ : L2.St} {i : Nat} : ∀ {vs : List Nat}, i ∉ vs → (L2.wipe σ vs)[i]? = σ[i]?
  | [], _ => rfl
  | v :: vs, h => by
    unfold L2.wipe
    rw [List.getElem?_set_ne (fun e => h (by rw [e]; exact List.mem_cons_self))]
    exact wipe_at (fun e => h (List.mem_cons_of_mem _ e))
/-- the slots behind a block: those that it may have used are as they were -/
theorem Rel.unwipe {B : Bs} {S S' : Hp} {μ μ' : Mem} {H H' : Hp} {σ σ2 : L2.St} {δ δ2 : Ss} {vs : List Nat} (r : Rel K B S μ H σ δ) (hn : noOwn δ vs = true) (e : Ex S S') (r2 : Rel K B S' μ' H' σ2 δ2) (hσ : L2.wipe σ2 vs = L2.wipe σ vs) (hδ : wipeD δ2 vs = wipeD δ vs) : Rel K B S' μ' H' σ δ := by
  refine ⟨r2.r3, r2.gr, r2.lo, fun i s q => ?_, r.dj, r2.fr, r.fd⟩
  obtain ⟨x, e1, h1⟩ := r.sl i s q
  refine ⟨x, e1, ?_⟩
  cases s with
  | no => trivial
  | val d =>
    obtain ⟨v, z1, z2⟩ := h1
    exact ⟨v, z1, Rep.mono e d v z2⟩
  | own m =>
    have hi : i ∉ vs := fun h => noOwn_at hn h m q
    have q2 : δ2[i]? = some (.own m) := by rw [← wipeD_at (δ := δ2) hi, hδ, wipeD_at hi]; exact q
    obtain ⟨x2, e2, h2⟩ := r2.sl i _ q2
    have e3 : σ2[i]? = σ[i]? := by rw [← wipe_at (σ := σ2) hi, hσ, wipe_at hi]
    rw [e3, e1] at e2
    cases e2
    exact h2
theorem Fresh.grow {B : Bs} {S S' : Hp} {μ μ' : Mem} {H H' : Hp} {σ : L2.St} {δ : Ss} {p : Addr} {o : HO} (f : Fresh B S μ H σ δ p o) (g : Grow S μ H S' μ' H') (ho : notTbl o := by exact fun _ z => nomatch z) (hu : ¬ isTup o := by exact fun ⟨_, z⟩ => nomatch z) : Fresh B S' μ' H' σ δ p o := by
  refine ⟨f.b, ?_, ?_, g.kp p o f.h f.m (fun sa z => by rw [f.s] at z; cases z) ho, f.d, f.f⟩
  · cases q : S' p with
    | none => rfl
    | some u =>
      rcases g.st p u q with z | z | z | ⟨z, y⟩
      · rw [f.s] at z; cases z
      · rw [f.h] at z; cases z
      · rw [f.m] at z; cases z
      · have := y f.s f.m o ho f.h
        rw [← this] at z
        exact (hu z).elim
  · cases q : μ' p with
    | none => rfl
    | some u =>
      rcases g.me p u q with z | z
      · rw [f.m] at z; cases z
      · rw [f.h] at z; cases z
def fLc (di : DI) (dg : DG) (dt : DT) (de : DE) (vs : List Nat) : DF := fun δ μ Q => di δ μ fun ds G δ1 μ1 => noOwn δ1 vs = true ∧ ∃ W : Nat → List D → Mem → Prop, W 0 [] μ1 ∧ (∀ i acc μ, i ≤ ds.length → W i acc μ → G μ) ∧
  (∀ i d acc μ, ds[i]? = some d → W i acc μ → dg d (wipeD δ1 vs) μ fun δ2 μ2 => wipeD δ2 vs = wipeD δ1 vs ∧ dt δ2 μ2 fun b δ3 μ3 => δ3 = δ2 ∧
    if b = true then de δ2 μ3 fun y δ4 μ4 => δ4 = δ2 ∧ acc.length < sizeLine ∧ W (i + 1) (acc ++ [y]) μ4 else W (i + 1) acc μ3) ∧ (∀ acc μ, W ds.length acc μ → Q (.lst acc) δ1 μ)
/-- the target of a block stores into its own slots alone -/
def GOwn (g : TG) (vs : List Nat) : Prop := ∀ (v : V) (σ : L2.St) (H : Hp) (Q : L2.St → Hp → Prop), g v σ H (fun σ2 H2 => L2.wipe σ2 vs = L2.wipe σ vs → Q σ2 H2) → g v σ H fun σ2 H2 => L2.wipe σ2 vs = L2.wipe σ vs ∧ Q σ2 H2
def GOwns (g : TGs) (vs : List Nat) : Prop := ∀ (v : List V) (σ : L2.St) (H : Hp) (Q : L2.St → Hp → Prop), g v σ H (fun σ2 H2 => L2.wipe σ2 vs = L2.wipe σ vs → Q σ2 H2) → g v σ H fun σ2 H2 => L2.wipe σ2 vs = L2.wipe σ vs ∧ Q σ2 H2
theorem wipe_set {σ : L2.St} {x : Option V} : ∀ {vs : List Nat} {i : Nat}, i ∈ vs → L2.wipe (σ.set i x) vs = L2.wipe σ vs
  | [], i, h => by cases h
  | v :: vs, i, h => by
    unfold L2.wipe
    by_cases hi : i ∈ vs
    · rw [wipe_set hi]
    · have e : i = v := by
        rcases List.mem_cons.mp h with e | e
        · exact e
        · exact absurd e hi
      subst e
      have z : ∀ (vs : List Nat) (τ : L2.St), i ∉ vs → (L2.wipe (τ.set i x) vs).set i none = (L2.wipe τ vs).set i none := fun vs => by
        induction vs with
        | nil => intro τ _; show (τ.set i x).set i none = τ.set i none; rw [List.set_set]
        | cons w ws ih =>
          intro τ hn
          have h1 : i ≠ w := fun e => hn (by rw [e]; exact List.mem_cons_self)
          have h2 : i ∉ ws := fun e => hn (List.mem_cons_of_mem _ e)
          show ((L2.wipe (τ.set i x) ws).set w none).set i none = ((L2.wipe τ ws).set w none).set i none
          rw [List.set_comm _ _ h1.symm, ih τ h2, List.set_comm _ _ h1]
      exact z vs σ hi
theorem go_name {i : Nat} {vs : List Nat} (h : i ∈ vs) : GOwn (gName i) vs := fun v σ H Q q => ⟨wipe_set h, q (wipe_set h)⟩
theorem gos_nil {vs : List Nat} : GOwns gNil vs := fun v σ H Q q => ⟨q.1, rfl, q.2 rfl⟩
theorem gos_cons {t : TG} {u : TGs} {vs : List Nat} (h1 : GOwn t vs) (h2 : GOwns u vs) (m1 : ∀ v σ H Q Q', (∀ σ H, Q σ H → Q' σ H) → t v σ H Q → t v σ H Q') (m2 : ∀ v σ H Q Q', (∀ σ H, Q σ H → Q' σ H) → u v σ H Q → u v σ H Q') : GOwns (gCons t u) vs := fun v σ H Q q => by
  obtain ⟨x, r, e, q⟩ := q
  refine ⟨x, r, e, ?_⟩
  have z := h1 x σ H (fun σ1 H1 => u r σ1 H1 fun σ2 H2 => L2.wipe σ2 vs = L2.wipe σ vs → Q σ2 H2) (m1 x σ H _ _ (fun σ1 H1 q _ => q) q)
  refine m1 x σ H _ _ (fun σ1 H1 ⟨e1, q1⟩ => ?_) z
  have y := h2 r σ1 H1 (fun σ2 H2 => L2.wipe σ2 vs = L2.wipe σ vs → Q σ2 H2) (m2 r σ1 H1 _ _ (fun _ _ q _ => q) q1)
  exact m2 r σ1 H1 _ _ (fun σ2 H2 ⟨e2, q2⟩ => ⟨e2.trans e1, q2 (e2.trans e1)⟩) y
theorem gm_name {i : Nat} : ∀ v σ H Q Q', (∀ σ H, Q σ H → Q' σ H) → gName i v σ H Q → gName i v σ H Q' := fun _ _ _ _ _ k q => k _ _ q
theorem gms_nil : ∀ v σ H Q Q', (∀ σ H, Q σ H → Q' σ H) → gNil v σ H Q → gNil v σ H Q' := fun _ _ _ _ _ k q => ⟨q.1, k _ _ q.2⟩
theorem gms_cons {t : TG} {u : TGs} (m1 : ∀ v σ H Q Q', (∀ σ H, Q σ H → Q' σ H) → t v σ H Q → t v σ H Q') (m2 : ∀ v σ H Q Q', (∀ σ H, Q σ H → Q' σ H) → u v σ H Q → u v σ H Q') : ∀ v σ H Q Q', (∀ σ H, Q σ H → Q' σ H) → gCons t u v σ H Q → gCons t u v σ H Q' := fun v σ H Q Q' k q => by
  obtain ⟨x, r, e, q⟩ := q
  exact ⟨x, r, e, m1 _ _ _ _ _ (fun σ1 H1 q1 => m2 _ _ _ _ _ k q1) q⟩
theorem go_tup {n : Nat} {t : TGs} {vs : List Nat} (h : GOwns t vs) : GOwn (gTup K n t) vs := fun v σ H Q q => by
  obtain ⟨a, xs, e, h1, h2, q⟩ := q
  exact ⟨a, xs, e, h1, h2, h _ _ _ _ q⟩
theorem wipe_wipe (σ : L2.St) : ∀ vs : List Nat, L2.wipe (L2.wipe σ vs) vs = L2.wipe σ vs := fun vs => by
  have z : ∀ (ws : List Nat) (τ : L2.St), (∀ i ∈ ws, i ∈ vs) → L2.wipe (L2.wipe τ ws) vs = L2.wipe τ vs := fun ws => by
    induction ws with
    | nil => intro τ _; rfl
    | cons w ws ih =>
      intro τ h
      show L2.wipe ((L2.wipe τ ws).set w none) vs = L2.wipe τ vs
      rw [wipe_set (h w List.mem_cons_self)]
      exact ih τ fun i hi => h i (List.mem_cons_of_mem _ hi)
  exact z vs σ fun _ h => h
theorem simFLc {wi : TI} {g : TG} {tt : TT} {te : TE} {vs : List Nat} {di : DI} {dg : DG} {dt : DT} {de : DE} (hi : SimI K Z wi di) (ho : GOwn g vs) (hg : SimG K Z g dg) (ht : SimT K Z tt dt) (he : SimE K Z te de) : SimF K Z (tLc wi g tt te vs) (fLc di dg dt de vs) := fun B hB S μ H σ δ Q QF rl k q => by
  refine hi B hB S μ H σ δ _ _ rl (fun S1 μ1 H1 δ1 J ds G e1 r1 wk q1 => ?_) q
  obtain ⟨hn, W, w0, hG, turn, fin⟩ := q1
  have lo1 : Ex B.L S1 := r1.lo
  intro A hA
  obtain ⟨r1', f1⟩ := r1.fresh (o := .lst []) hA
  have hF : B.F A = none := f1.f
  refine ⟨fun i m H => m = ds.length - i ∧ i ≤ ds.length ∧ ∃ S μ acc ws, Ex S1 S ∧ Rel K B S μ H σ δ1 ∧ Fresh B S μ H σ δ1 A (.lst ws) ∧ RepL K S acc ws ∧ W i acc μ, ⟨ds.length, by simp, Nat.zero_le _, S1, μ1, [], [], Ex.refl S1, r1', f1, rfl, w0⟩, ?_⟩
  rintro i m H2 ⟨rfl, hi, S2, μ2, acc, ws, e2, r2, f2, ha, w2⟩
  have g2 := hG i acc μ2 hi w2
  by_cases hlt : i < ds.length
  · refine .inr ⟨wk.goes S2 μ2 H2 i e2 r2.r3 g2 hlt, fun H' => ∃ S μ acc ws, Ex S1 S ∧ Rel K B S μ H' σ δ1 ∧ Fresh B S μ H' σ δ1 A (.lst ws) ∧ RepL K S acc ws ∧ W (i + 1) acc μ, fun H' z => ⟨ds.length - (i + 1), by omega, rfl, hlt, z⟩, fun x H' y => ?_⟩
    have hd : ds[i]? = some ds[i] := by simp [hlt]
    obtain ⟨S3, g3, r3, hx⟩ := wk.yields S2 μ2 H2 i _ x H' e2 r2.r3 g2 hd y
    have r3' := r2.grow g3 r3
    have f3 := f2.grow g3
    have ha3 := RepL.mono g3.ex _ _ ha
    have r4 : Rel K { B with F := updF B.F A (.lst acc) } S3 μ2 H' σ δ1 := r3'.aside f3 (m := .lst acc) ⟨ws, rfl, ha3⟩
    have tr := turn i _ acc μ2 hd w2
    have ww : L2.wipe (L2.wipe σ vs) vs = L2.wipe σ vs := wipe_wipe σ vs
    have gg := ho x (L2.wipe σ vs) H' (fun σ2 H2 => tt σ2 H2 fun b H3 => if b = true then te σ2 H3 fun y H4 => ∃ acc, H4 A = some (.lst acc) ∧ acc.length < sizeLine ∧
        (fun H' => ∃ S μ acc ws, Ex S1 S ∧ Rel K B S μ H' σ δ1 ∧ Fresh B S μ H' σ δ1 A (.lst ws) ∧ RepL K S acc ws ∧ W (i + 1) acc μ) (upd H4 A (.lst (acc ++ [y]))) else (fun H' => ∃ S μ acc ws, Ex S1 S ∧ Rel K B S μ H' σ δ1 ∧ Fresh B S μ H' σ δ1 A (.lst ws) ∧ RepL K S acc ws ∧ W (i + 1) acc μ) H3) ?_
    · rw [ww] at gg
      exact gg
    · refine hg { B with F := updF B.F A (.lst acc) } (hB.aside f3.f) S3 μ2 H' (L2.wipe σ vs) (wipeD δ1 vs) x _ _ _ (r4.wipe vs) hx (fun S4 μ4 H4 σ4 δ4 e4 r4' q4 hσ => ?_) tr
      rw [ww] at hσ
      obtain ⟨hδ, q4⟩ := q4
      refine ht { B with F := updF B.F A (.lst acc) } (hB.aside f3.f) S4 μ4 H4 σ4 δ4 _ _ r4' (fun S5 μ5 H5 δ5 b e5 r5 q5 => ?_) q4
      obtain ⟨rfl, q5⟩ := q5
      cases b with
      | false =>
        rw [if_neg Bool.false_ne_true] at q5 ⊢
        have r6 := r4.unwipe hn (e4.trans e5) r5 hσ hδ
        obtain ⟨r7, o, f7, h7⟩ := r6.again hF
        obtain ⟨ws', rfl, h7⟩ := h7
        exact ⟨S5, μ5, acc, ws', ((e2.trans g3.ex).trans e4).trans e5, r7, f7, h7, q5⟩
      | true =>
        rw [if_pos rfl] at q5 ⊢
        refine he { B with F := updF B.F A (.lst acc) } (hB.aside f3.f) S5 μ5 H5 σ4 δ5 _ _ r5 (fun S6 μ6 H6 δ6 v d e6 r6 hv q6 => ?_) q5
        obtain ⟨rfl, hl, w6⟩ := q6
        have r7 := r4.unwipe hn ((e4.trans e5).trans e6) r6 hσ hδ
        obtain ⟨r8, o, f8, h8⟩ := r7.again hF
        obtain ⟨ws', rfl, h8⟩ := h8
        obtain ⟨r9, f9⟩ := r8.writeF f8 (o' := .lst (ws' ++ [v])) trivial
        exact ⟨ws', f8.h, by rw [RepL.length h8]; exact hl, S6, μ6, acc ++ [d], ws' ++ [v], (((e2.trans g3.ex).trans e4).trans e5).trans e6, r9, f9, RepL.append h8 (RepL.one hv), w6⟩
  · have e : i = ds.length := by omega
    subst e
    exact .inl ⟨wk.stops S2 μ2 H2 e2 r2.r3 g2, k S2 μ2 H2 δ1 A _ (.lst acc) (e1.trans e2) r2 f2 ⟨ws, rfl, ha⟩ (fin acc μ2 w2)⟩
structure PDTs (K : PySem.W.Frag) (Z : Bs) (X : Cx) (ifs : List Expr) (t : TT) (d : DT) : Prop where
  p : PTs X ifs t
  s : SimT K Z t d
def dYes : DT := fun δ μ Q => Q true δ μ
theorem ts_nil : PDTs K Z X [] tYes dYes := ⟨pts_nil, fun B hB S μ H σ δ Q QD rl k q => k S μ H δ _ (Ex.refl S) rl q⟩
theorem ts_one {c : Expr} {t : TT} {d : DT} (h : PDT K Z X c t d) : PDTs K Z X [c] t d := ⟨pts_one h.p, h.s⟩
theorem f_lc {elt tg iter : Expr} {ifs : List Expr} {scope : Scope} {own : List (Str × Nat)} {pos : Pos} {wi : TI} {g : TG} {tt : TT} {te : TE} {di : DI} {dg : DG} {dt : DT} {de : DE} (hc : X.calm = true) (hN : X.N.Nodup) (ho : GOwn g (own.map (·.2))) (hi : PDI K Z X tg iter wi di) (ok : BlkOk X.N X.env.scope scope own)
    (hg : ∀ (s : Shared) (H : Hp) (C : Addr) (cl : List (Str × Addr)) (fp : List Addr), PDG K Z (X.blk s H scope (compEnvC scope cl C X.env) fp) tg g dg) (ht : ∀ (s : Shared) (H : Hp) (C : Addr) (cl : List (Str × Addr)) (fp : List Addr), PDTs K Z (X.blk s H scope (compEnvC scope cl C X.env) fp) ifs tt dt)
    (he : ∀ (s : Shared) (H : Hp) (C : Addr) (cl : List (Str × Addr)) (fp : List Addr), PD K Z (X.blk s H scope (compEnvC scope cl C X.env) fp) elt te de) (hs : ∀ x, foldedSetIterable iter X.env x = pure x := by intro _; rfl) :
    PDF K Z X (.ListComp elt [⟨tg, iter, ifs, 0⟩] scope pos) (tLc wi g tt te (own.map (·.2))) (fLc di dg dt de (own.map (·.2))) :=
  ⟨pe_lc hc hN hi.p ok (fun s H C cl fp => (hg s H C cl fp).p) (fun s H C cl fp => (ht s H C cl fp).p) (fun s H C cl fp => (he s H C cl fp).p) hs, by
    let s0 : Shared := X.s_0
    exact simFLc hi.s ho (hg s0 X.H_0 0 [] []).s (ht s0 X.H_0 0 [] []).s (he s0 X.H_0 0 [] []).s⟩
/-- y = [..] -/
theorem s_lc {i : Nat} {y : Str} {py : Pos} {elt tg iter : Expr} {ifs : List Expr} {scope : Scope} {own : List (Str × Nat)} {pos spos : Pos} {wi : TI} {g : TG} {tt : TT} {te : TE} {di : DI} {dg : DG} {dt : DT} {de : DE} (hc : X.calm = true) (hN : X.N.Nodup) (ho : GOwn g (own.map (·.2))) (hy : X.N[i]? = some y) (hyl : X.env.scope.names.lookup y = some .local)
    (hsw : swapsWith (.ListComp elt [⟨tg, iter, ifs, 0⟩] scope pos) (some (.Name y py)) spos.line X.env = pure true) (hi : PDI K Z X tg iter wi di) (ok : BlkOk X.N X.env.scope scope own)
    (hg : ∀ (s : Shared) (H : Hp) (C : Addr) (cl : List (Str × Addr)) (fp : List Addr), PDG K Z (X.blk s H scope (compEnvC scope cl C X.env) fp) tg g dg) (ht : ∀ (s : Shared) (H : Hp) (C : Addr) (cl : List (Str × Addr)) (fp : List Addr), PDTs K Z (X.blk s H scope (compEnvC scope cl C X.env) fp) ifs tt dt)
    (he : ∀ (s : Shared) (H : Hp) (C : Addr) (cl : List (Str × Addr)) (fp : List Addr), PD K Z (X.blk s H scope (compEnvC scope cl C X.env) fp) elt te de) (hs : ∀ x, foldedSetIterable iter X.env x = pure x := by intro _; rfl) :
    PDS K Z X (.Assign [.Name y py] (.ListComp elt [⟨tg, iter, ifs, 0⟩] scope pos) spos) (tAsg (tLc wi g tt te (own.map (·.2))) (gName i)) (dSet i (dIce (fLc di dg dt de (own.map (·.2))))) :=
  ⟨ps_setLc hc hN hy hyl hsw hi.p ok (fun s H C cl fp => (hg s H C cl fp).p) (fun s H C cl fp => (ht s H C cl fp).p) (fun s H C cl fp => (he s H C cl fp).p) hs, by
    let s0 : Shared := X.s_0
    exact simAsg (simIce (simFLc hi.s ho (hg s0 X.H_0 0 [] []).s (ht s0 X.H_0 0 [] []).s (he s0 X.H_0 0 [] []).s)) simGName⟩
/-! ### defs -/
abbrev DSp := List D → Mem → QM → DX → Prop
def XRep (K : PySem.W.Frag) (S H : Hp) : XF → Option Addr → Prop
  | none, d => d = none
  | some fs, d => ∃ a vs, d = some a ∧ S a = some (.xd vs) ∧ RepF K S fs vs
def up (K : PySem.W.Frag) (dsp : DSp) : Sp := fun vs H Q E => ∃ S μ ds QD ED, R3 K S μ H ∧ RepL K S ds vs ∧ dsp ds μ QD ED ∧
  (∀ S' μ' H' v d, Grow S μ H S' μ' H' → R3 K S' μ' H' → Rep K S' d v → QD d μ' → Q v H') ∧
  (∀ S' μ' H' c fs a, Grow S μ H S' μ' H' → R3 K S' μ' H' → XRep K S' H' fs a → ED c fs μ' → E (.ref (He.ga K c)) a H')
abbrev X0 : DX := fun _ _ _ => False
theorem start_rel {S : Hp} {μ : Mem} {H : Hp} {N : List Str} {vs : List V} {ds : List D} (r : R3 K S μ H) (h : RepL K S ds vs) : Rel K ⟨S, μ, H, S, fun _ => none⟩ S μ H (start N vs) (ds.map SL.val ++ List.replicate (N.length - ds.length) SL.no) := by
  have el := RepL.length h
  refine ⟨r, Grow.refl, Ex.refl S, fun i s e => ?_, fun i j m n _ e _ => ?_, (fun _ _ e => nomatch e), fun i m p e _ => ?_⟩
  · by_cases hi : i < ds.length
    · rw [List.getElem?_append_left (by simpa using hi), List.getElem?_map, List.getElem?_eq_getElem hi] at e
      cases e
      obtain ⟨v, e1, h1⟩ := RepL.get h (List.getElem?_eq_getElem hi)
      refine ⟨some v, ?_, v, rfl, h1⟩
      show (vs.map some ++ List.replicate (N.length - vs.length) none)[i]? = _
      rw [List.getElem?_append_left (by simpa [el] using hi), List.getElem?_map, e1]
      rfl
    · rw [List.getElem?_append_right (by simpa using hi), List.getElem?_replicate] at e
      split at e
      · rename_i hlt
        cases e
        refine ⟨none, ?_, trivial⟩
        show (vs.map some ++ List.replicate (N.length - vs.length) none)[i]? = _
        rw [List.getElem?_append_right (by simp [el]; omega), List.getElem?_replicate, if_pos (by simp [el] at hlt ⊢; exact hlt)]
      · cases e
  · exfalso
    by_cases hi : i < ds.length
    · rw [List.getElem?_append_left (by simpa using hi), List.getElem?_map, List.getElem?_eq_getElem hi] at e
      cases e
    · rw [List.getElem?_append_right (by simpa using hi), List.getElem?_replicate] at e
      split at e <;> cases e
  · exfalso
    by_cases hi : i < ds.length
    · rw [List.getElem?_append_left (by simpa using hi), List.getElem?_map, List.getElem?_eq_getElem hi] at e
      cases e
    · rw [List.getElem?_append_right (by simpa using hi), List.getElem?_replicate] at e
      split at e <;> cases e
def startD (n : Nat) (ds : List D) : Ss := ds.map SL.val ++ List.replicate (n - ds.length) SL.no
end Dl
namespace Dl
open PySem PySem.Spec PyProof.Rows L2
variable {X : Cx} {K : PySem.W.Frag} {Z : Bs}
/-! ### more expressions -/
theorem t_valP {e : Expr} {te : TE} {de : DE} (h : PD K Z X e te de) (he : ∀ whole, isTrue e X.env whole = (do let v ← whole; standAt e.pos; holding [v] (truthy v)) := by intro _; rfl) : PDT K Z X e (tB te) (dTest de) := ⟨pt_val h.p he, simB h.s⟩
def dNeg (da : DE) : DE := fun δ μ Q => da δ μ fun x δ1 μ1 => ∃ i, x = .int i ∧ Q (.int (-i)) δ1 μ1
theorem d_neg {a : Expr} {ta : TE} {da : DE} {pos} (h : PD K Z X a ta da) : PD K Z X (.UnaryOp .USub a pos) (tUn (rU fun i => .int (-i)) ta) (dNeg da) := ⟨pe_un un_neg h.p, fun B hB S μ H σ δ Q QD rl k q => by
  refine h.s B hB S μ H σ δ _ _ rl (fun S1 μ1 H1 δ1 x dx e1 r1 hx q1 => ?_) q
  obtain ⟨i, rfl, q1⟩ := q1
  exact ⟨i, hx, k S1 μ1 H1 δ1 _ (.int (-i)) e1 r1 rfl q1⟩⟩
/-- x in a list or tuple of plain values -/
def flatD : D → Bool
  | .non => true
  | .bl _ => true
  | .int _ => true
  | .str _ => true
  | _ => false
def vOf : D → V
  | .bl b => .bl b
  | .int b => .int b
  | .str b => .str b
  | _ => .non
theorem flat_v {S : Hp} {d : D} {v : V} (h : Rep K S d v) (f : flatD d = true) : v = vOf d ∧ flatV v = true := by
  cases d with
  | non => have h : v = .non := h; subst h; exact ⟨rfl, rfl⟩
  | bl b => have h : v = .bl b := h; subst h; exact ⟨rfl, rfl⟩
  | int b => have h : v = .int b := h; subst h; exact ⟨rfl, rfl⟩
  | str b => have h : v = .str b := h; subst h; exact ⟨rfl, rfl⟩
  | _ => cases f
theorem flat_vs {S : Hp} : ∀ {l : List D} {vs : List V}, RepL K S l vs → l.all flatD = true → vs = l.map vOf ∧ vs.all flatV = true
  | [], vs, h, _ => by have h : vs = [] := h; subst h; exact ⟨rfl, rfl⟩
  | d :: l, vs, h, f => by
    obtain ⟨v, r, rfl, h1, h2⟩ := h
    rw [List.all_cons, Bool.and_eq_true] at f
    obtain ⟨e1, f1⟩ := flat_v h1 f.1
    obtain ⟨e2, f2⟩ := flat_vs h2 f.2
    exact ⟨by rw [e1, e2]; rfl, by rw [List.all_cons, f1, f2]; rfl⟩
def inD (x : D) (l : List D) : Bool := inV (vOf x) (l.map vOf)
def rdIn (neg : Bool) : DR := fun x y μ Q => ∃ l, seqOf μ y = some l ∧ flatD x = true ∧ l.all flatD = true ∧ Q (.bl (if neg then !inD x l else inD x l)) μ
theorem sim_in {neg : Bool} : SimR K (rIn K neg) (rdIn neg) := fun S μ H x y dx dy Q QD r hx hy k q => by
  obtain ⟨l, e, f1, f2, q⟩ := q
  obtain ⟨a, vs, rfl, hs, h2⟩ := seq_is r hy e
  obtain ⟨e1, g1⟩ := flat_v hx f1
  obtain ⟨e2, g2⟩ := flat_vs h2 f2
  exact ⟨a, vs, rfl, hs, g1, g2, k S μ H _ (.bl (if neg then !inD dx l else inD dx l)) Grow.refl r (by rw [e1, e2]; rfl) q⟩
theorem o_in (hk : X.K = K := by rfl) : PDOp K X (compareOp .In) (rIn K false) (rdIn false) := by
  subst hk
  exact ⟨op_in_seq, sim_in⟩
theorem o_notIn (hk : X.K = K := by rfl) : PDOp K X (compareOp .NotIn) (rIn K true) (rdIn true) := by
  subst hk
  exact ⟨op_notIn_seq, sim_in⟩
/-! ### looks at a slot's own list -/
def dInO (neg : Bool) (da : DE) (i : Nat) : DE := fun δ μ Q => da δ μ fun x δ1 μ1 => ∃ l, δ1[i]? = some (.own (.lst l)) ∧ flatD x = true ∧ l.all flatD = true ∧ Q (.bl (if neg then !inD x l else inD x l)) δ1 μ1
theorem simInO {neg : Bool} {ta : TE} {da : DE} {i : Nat} (h : SimE K Z ta da) : SimE K Z (tOp (rIn K neg) ta (tVar i)) (dInO neg da i) := fun B hB S μ H σ δ Q QD rl k q => by
  refine h B hB S μ H σ δ _ _ rl (fun S1 μ1 H1 δ1 x dx e1 r1 hx q1 => ?_) q
  obtain ⟨l, e, f1, f2, q1⟩ := q1
  obtain ⟨p, o, e2, h2, vs, rfl, h3⟩ := r1.ownAt e
  obtain ⟨z1, g1⟩ := flat_v hx f1
  obtain ⟨z2, g2⟩ := flat_vs h3 f2
  exact ⟨.ref p, e2, p, vs, rfl, .inl (SqL.of h2), g1, g2, k S1 μ1 H1 δ1 _ (.bl (if neg then !inD dx l else inD dx l)) e1 r1 (by rw [z1, z2]; rfl) q1⟩
theorem t_inO {a : Expr} {x : Str} {p pos : Pos} {ta : TE} {da : DE} (i : Nat) (ha : PD K Z X a ta da) (hN : X.N[i]? = some x := by rfl) (hv : Vis X.env.scope x := by first | exact Or.inl rfl | exact Or.inr (Or.inl rfl) | exact Or.inr (Or.inr rfl)) (hd : (x == ("__debug__" : Str)) = false := by decide) (hcd : (x == ("__classdict__" : Str)) = false := by decide) (hm : behindInMarks .In (.Name x p) = false := by rfl) (hk : X.K = K := by rfl) :
    PDT K Z X (.Compare a [.In] [.Name x p] pos) (tTest (tOp (rIn K false) ta (tVar i))) (dTest (dInO false da i)) := by
  subst hk
  exact ⟨pt_cmpR op_in_seq ha.p (pe_var hN hv hd hcd) hm, simTest (simInO ha.s)⟩
theorem t_notInO {a : Expr} {x : Str} {p pos : Pos} {ta : TE} {da : DE} (i : Nat) (ha : PD K Z X a ta da) (hN : X.N[i]? = some x := by rfl) (hv : Vis X.env.scope x := by first | exact Or.inl rfl | exact Or.inr (Or.inl rfl) | exact Or.inr (Or.inr rfl)) (hd : (x == ("__debug__" : Str)) = false := by decide) (hcd : (x == ("__classdict__" : Str)) = false := by decide) (hm : behindInMarks .NotIn (.Name x p) = false := by rfl) (hk : X.K = K := by rfl) :
    PDT K Z X (.Compare a [.NotIn] [.Name x p] pos) (tTest (tOp (rIn K true) ta (tVar i))) (dTest (dInO true da i)) := by
  subst hk
  exact ⟨pt_cmpR op_notIn_seq ha.p (pe_var hN hv hd hcd) hm, simTest (simInO ha.s)⟩
def dIxO (i : Nat) (db : DE) : DE := fun δ μ Q => (∃ m, δ[i]? = some (.own m)) ∧ db δ μ fun y δ1 μ1 => ∃ l j d, δ1[i]? = some (.own (.lst l)) ∧ y = .int j ∧ atI l j = some d ∧ Q d δ1 μ1
theorem d_ixO {b : Expr} {x : Str} {p pos : Pos} {tb : TE} {db : DE} (i : Nat) (hb : PD K Z X b tb db) (hN : X.N[i]? = some x := by rfl) (hv : Vis X.env.scope x := by first | exact Or.inl rfl | exact Or.inr (Or.inl rfl) | exact Or.inr (Or.inr rfl)) (hd : (x == ("__debug__" : Str)) = false := by decide) (hcd : (x == ("__classdict__" : Str)) = false := by decide) (hs : PlainIx b := by exact fun _ _ => rfl) (hk : X.K = K := by rfl) :
    PD K Z X (.Subscript (.Name x p) b pos) (tOp (rIx K) (tVar i) tb) (dIxO i db) := by
  subst hk
  exact ⟨pe_ix ix_seq (pe_var hN hv hd hcd) hb.p hs, fun B hB S μ H σ δ Q QD rl k q => by
  obtain ⟨⟨m, e0⟩, q⟩ := q
  obtain ⟨p0, o0, e1, _, _⟩ := rl.ownAt e0
  refine ⟨.ref p0, e1, ?_⟩
  refine hb.s B hB S μ H σ δ _ _ rl (fun S1 μ1 H1 δ1 y dy e2 r1 hy q1 => ?_) q
  obtain ⟨l, j, d, e, rfl, ea, q1⟩ := q1
  obtain ⟨p', o, e3, h2, vs, rfl, h3⟩ := r1.ownAt e
  rw [e1] at e3
  cases e3
  obtain ⟨u, e4, hu⟩ := RepL.atI h3 ea
  have hy : y = .int j := hy
  subst hy
  exact .inl ⟨p0, vs, j, u, rfl, rfl, SqL.of h2, e4, k S1 μ1 H1 δ1 u d e2 r1 hu q1⟩⟩
def dLenO (i : Nat) : DE := fun δ μ Q => ∃ l, δ[i]? = some (.own (.lst l)) ∧ Q (.int l.length) δ μ
theorem d_lenO {x : Str} {p p2 pos : Pos} (i : Nat) (hg : Gl X "len") (hm : X.mg "len" = none) (hN : X.N[i]? = some x := by rfl) (hv : Vis X.env.scope x := by first | exact Or.inl rfl | exact Or.inr (Or.inl rfl) | exact Or.inr (Or.inr rfl)) (hd : (x == ("__debug__" : Str)) = false := by decide) (hcd : (x == ("__classdict__" : Str)) = false := by decide) (hs : starEach [.Name x p] X.env = (false, eval (.Name x p) X.env) :: starEach [] X.env := by rfl) (hk : X.K = K := by rfl) :
    PD K Z X (.Call (.Name "len" p2) [.Name x p] [] pos) (tCB (rLenA K) (tCons (tVar i) tNil)) (dLenO i) := by
  subst hk
  exact ⟨pe_callB (call_len_seq.or call_len_str) hg hm PySem.boot_len (pa_cons (pe_var hN hv hd hcd) pa_nil hs) (by decide) (by decide) hs, fun B hB S μ H σ δ Q QD rl k q => by
  obtain ⟨l, e, q⟩ := q
  obtain ⟨p', o, e3, h2, vs, rfl, h3⟩ := rl.ownAt e
  exact ⟨.ref p', e3, .inl ⟨p', vs, rfl, .inl (SqL.of h2), k S μ H δ _ (.int l.length) (Ex.refl S) rl (by rw [RepL.length h3]; rfl) q⟩⟩⟩
/-- a new list from a slot's own one -/
def dSlO (i : Nat) (dl dh : DO) : DE := fun δ μ Q => (∃ m, δ[i]? = some (.own m)) ∧ dl δ μ fun lo δ1 μ1 => dh δ1 μ1 fun hi δ2 μ2 => ∃ l, δ2[i]? = some (.own (.lst l)) ∧ Q (.lst (cutD l lo hi)) δ2 μ2
/-! ### methods of built-in types -/
def isStr : D → Prop := fun d => ∃ z, d = .str z
def dBMs (r : D → List D → Mem → QM → Prop) (do_ : DE) (da : DA) : DE := fun δ μ Q => do_ δ μ fun x δ1 μ1 => isStr x ∧ da δ1 μ1 fun xs δ2 μ2 => r x xs μ2 fun d μ3 => Q d δ2 μ3
/-! ### isinstance with a built-in type -/
def rdIsi : DC := fun xs μ Q => ∃ x T t b, xs = [x, .ty T] ∧ tyD x = some t ∧ kitB t T = some b ∧ Q (.bl b) μ
theorem tyx_of {S : Hp} {H : Hp} (e : ExR S H) {d : D} {v : V} {t : String} (h : Rep K S d v) (ht : tyD d = some t) : TyX K H v (.type t) := by
  cases d with
  | non => cases (show some _ = some t from ht); have h : v = .non := h; subst h; exact .base .non
  | bl b => cases (show some _ = some t from ht); have h : v = .bl b := h; subst h; exact .base (.bl b)
  | int b => cases (show some _ = some t from ht); have h : v = .int b := h; subst h; exact .base (.int b)
  | str b => cases (show some _ = some t from ht); have h : v = .str b := h; subst h; exact .base (.str b)
  | tup l =>
    cases (show some _ = some t from ht)
    obtain ⟨a, vs, rfl, h1, _⟩ := h
    rcases exr_t e (SqT.of h1) with (h | ⟨o, h⟩) | h
    · exact .base (.tup h)
    · exact .fTuple h
    · obtain ⟨o, its, n, hk, hc, _⟩ := h
      exact .kTuple hk hc
  | lst l =>
    cases (show some _ = some t from ht)
    obtain ⟨a, vs, rfl, h1, _⟩ := h
    exact .base (.lst (exr_lst e h1))
  | dct l =>
    cases (show some _ = some t from ht)
    obtain ⟨a, vs, rfl, h1, _⟩ := h
    rcases exr_rd e h1 with h | ⟨o, h⟩
    · exact .base (.dK h)
    · exact .fDict h
  | _ => cases ht
theorem c_isi (hk : X.K = K := by rfl) : PDC K X (.builtin "isinstance") (rIsi K) rdIsi := by
  subst hk
  exact ⟨call_isi, fun S μ H xs ds Q QD r hx k q => by
  obtain ⟨x, T, t, b, rfl, ht, hk, q⟩ := q
  obtain ⟨v, w, rfl, h1, h2⟩ := RepL.two' hx
  have h2 : w = .ty T := h2
  subst h2
  exact ⟨v, .ty T, .type t, .type T, b, rfl, .ty T, tyx_of r.ex h1 ht, kit_ty hk, k S μ H _ (.bl b) Grow.refl r rfl q⟩⟩
/-! ### x[i] = e -/
/-- .. where x is a cell of the memory -/
def dSetIxM (da db de : DE) : DS := fun DD δ μ => de δ μ fun d δ1 μ1 => da δ1 μ1 fun x δ2 μ2 => db δ2 μ2 fun y δ3 μ3 => ∃ p l k j, x = .ref p ∧ μ3 p = some (.lst l) ∧ y = .int k ∧ ixN l.length k = some j ∧ DD.nx δ3 (updM μ3 p (.lst (l.set j d)))
/-! ### rules as the printer writes them -/
theorem gs_consP {e : Expr} {es : List Expr} {t : TG} {u : TGs} {d : DG} {du : DGs} (h1 : PDG K Z X e t d) (h2 : PDGs K Z X es u du) (hs : (assignEach (e :: es) X.env).map (·.2) = assign e X.env :: (assignEach es X.env).map (·.2) := by rfl) : PDGs K Z X (e :: es) (gCons t u) (gdCons d du) :=
  ⟨pgs_cons h1.p h2.p hs, fun B hB S μ H σ δ v ds Q QD rl h k q => by
    obtain ⟨x, r, rfl, q⟩ := q
    obtain ⟨y, ys, rfl, hy, hys⟩ := h
    refine ⟨y, ys, rfl, h1.s B hB S μ H σ δ y x _ _ rl hy (fun S1 μ1 H1 σ1 δ1 e1 r1 q1 => ?_) q⟩
    exact h2.s B hB S1 μ1 H1 σ1 δ1 ys r _ _ r1 (RepL.mono e1 _ _ hys) (fun S2 μ2 H2 σ2 δ2 e2 r2 q2 => k S2 μ2 H2 σ2 δ2 (e1.trans e2) r2 q2) q1⟩
theorem g_tupP {es : List Expr} {k : Nat} {t : TGs} {d : DGs} {n : Nat} {pos} (hc : X.calm = true) (h : PDGs K Z X es t d) (hn : (assignEach es X.env).length = n := by rfl) (hst : (assignEach es X.env).findIdx? (·.1) = none := by rfl) (hk : X.K = K := by rfl) : PDG K Z X (.Tuple es k pos) (gTup K n t) (gdTup n d) := by
  subst hk
  exact ⟨pg_tup hc h.p hn hst, simGTup h.s⟩
theorem s_appP {x : Str} {e : Expr} {p1 p2 p3 p4 : Pos} {te : TE} {de : DE} (i : Nat) (he : PD K Z X e te de) (hN : X.N[i]? = some x := by rfl) (hv : Vis X.env.scope x := by first | exact Or.inl rfl | exact Or.inr (Or.inl rfl) | exact Or.inr (Or.inr rfl)) (hd : (x == ("__debug__" : Str)) = false := by decide) (hcd : (x == ("__classdict__" : Str)) = false := by decide) (hbase : attributeBase (.Name x p1) "append" X.env (eval (.Name x p1) X.env) = eval (.Name x p1) X.env := by rfl)
    (hfew : ((backTo p3 (starEach [e] X.env)).all (fun x => !x.1) && (backToKw p3 (keywordEach [] X.env)).all (fun x => x.1.isSome) && decide ([e].length + ([] : List Keyword).length + (if ([] : List Keyword).isEmpty then 0 else 1) < 30)) = true := by rfl)
    (hline : (p2.endLine == p3.line) = true := by rfl) (hs : starEach [e] X.env = (false, eval e X.env) :: starEach [] X.env := by rfl) (hplain : (backTo p3 (starEach [] X.env)).any (·.1) = false := by rfl) (hsw : swapsWith (.Call (.Attribute (.Name x p1) "append" p2) [e] [] p3) none p4.line X.env = pure false := by rfl) (hk : X.K = K := by rfl) :
    PDS K Z X (.Expr (.Call (.Attribute (.Name x p1) "append" p2) [e] [] p3) p4) (tDrop (tBM K "list" rAppend (tVar i) (tCons te tNil))) (dApp i de) := by
  subst hk
  exact ⟨ps_expr (pe_bm PySem.F.plainAttrs_list PySem.F.slot_list_append PySem.F.type_list_append mt_append (pe_var hN hv hd hcd) (pa_cons he.p pa_nil hs) hbase hfew hline hs hplain) hsw, simApp he.s⟩
/-! ### a slot that is its own object's, or a value -/
def dOO (i : Nat) (d1 d2 : DE) : DE := fun δ μ Q => match δ[i]? with
  | some (.own _) => d1 δ μ Q
  | _ => d2 δ μ Q
theorem d_oo {e : Expr} {te : TE} {d1 d2 : DE} (i : Nat) (h1 : PD K Z X e te d1) (h2 : PD K Z X e te d2) : PD K Z X e te (dOO i d1 d2) := ⟨h1.p, fun B hB S μ H σ δ Q QD r k h => by
  unfold dOO at h
  split at h
  · exact h1.s B hB S μ H σ δ Q QD r k h
  · exact h2.s B hB S μ H σ δ Q QD r k h⟩
def dOT (i : Nat) (d1 d2 : DT) : DT := fun δ μ Q => match δ[i]? with
  | some (.own _) => d1 δ μ Q
  | _ => d2 δ μ Q
theorem t_oo {e : Expr} {te : TT} {d1 d2 : DT} (i : Nat) (h1 : PDT K Z X e te d1) (h2 : PDT K Z X e te d2) : PDT K Z X e te (dOT i d1 d2) := ⟨h1.p, fun B hB S μ H σ δ Q QD r k h => by
  unfold dOT at h
  split at h
  · exact h1.s B hB S μ H σ δ Q QD r k h
  · exact h2.s B hB S μ H σ δ Q QD r k h⟩
end Dl
namespace Dl
open PySem PySem.Spec PyProof.Rows L2
/-! ### defs that are called where no display is under way -/
structure FnG (P : Program) (w : World) (K : PySem.W.Frag) (mg : Str → Option Value) (base : Heap) (CX : CXT) (k : Nat) (f : Addr) (fd : FuncData) (ps : List Str) (sp : Sp) : Prop where
  ln : ∀ vs H Q E, sp vs H Q E → vs.length = ps.length
  go : ∀ (A : Around) (oe : List Env) (t : Shared) (H : Hp) (ar : Args) (us : List Value) (vs : List V) (Q : VK) (E : XK), A.guards = some [] → Room k A → Env0 P w K mg base A oe t H → BindsTo t fd ar (ps.zip us) → Vals vs us → sp vs H Q E →
    codeAny (model P w) A (.call (.ref f) ar) (CR CX oe P w H t Q E) t
theorem FnG.mono {P : Program} {w : World} {K : PySem.W.Frag} {mg : Str → Option Value} {base : Heap} {CX : CXT} {j k : Nat} {f : Addr} {fd : FuncData} {ps : List Str} {sp : Sp} (F : FnG P w K mg base CX j f fd ps sp) (h : j ≤ k) : FnG P w K mg base CX k f fd ps sp :=
  ⟨F.ln, fun A oe t H ar us vs Q E g r => F.go A oe t H ar us vs Q E g (r.mono h)⟩
theorem fng_of {CX : CXT} {P : Program} {w : World} {K : PySem.W.Frag} {mg : Str → Option Value} {base : Heap} {k : Nat} {f : Addr} {nm ql : Str} {pr : Arguments} {bd : List Stmt} {sc : Scope} {dV kV doc pm cdv ct oc : Value} {an od : Option Addr} {osl : Array (Option Value)} {N ps : List Str} {sp : Sp}
    (lk : K.lookup f = some ⟨oc, od, .func (PySem.W.fnOf nm ql pr bd sc dV kV doc pm an cdv ct), osl⟩) (hc : PySem.W.codeIn K cdv ql = true) (S : FnScope N ps sc) (ln : ∀ vs H Q E, sp vs H Q E → vs.length = ps.length)
    (hb : ∀ (A : Around) (oe : List Env) (t : Shared) (H : Hp) (vs : List V) (Q : VK) (E : XK), A.guards = some [] → Room k (A.deeper (envOfC ql sc t.heap.objs.size f cdv)) → sp vs H Q E → ∃ r, PSs (cxOf CX P w K mg base N ql sc f cdv A oe t H E) bd r ∧ r { nx := fun _ H1 => Q .non H1, rt := Q } (start N vs) H) :
    FnG P w K mg base CX (k + 1) f (PySem.W.fnOf nm ql pr bd sc dV kV doc pm an cdv ct) ps sp := by
  refine ⟨ln, fun A oe t H ar us vs Q E g rm e0 bt rl hs => ?_⟩
  have KI : K.In t.heap := e0.mod.kin.keeps fun b o e => (e0.bs b o e).1
  have nl : t.heap.NoLimit := e0.mod.nolimit.keeps fun b o e => (e0.bs b o e).1
  have kd : ∀ y ∈ ps.zip us, sc.names.lookup y.1 = some .local ∨ (sc.names.lookup y.1 = some .cell ∧ ((cellsFrom (t.heap.objs.size + 1) sc.names []).lookup y.1).isSome = true) := fun y hy => by
    obtain ⟨n, v⟩ := y
    rcases S.par n (List.of_mem_zip hy).1 with z | z
    · exact .inl z
    · exact .inr ⟨z, PySem.W.cellsFrom_some _ _ _ (.inl z)⟩
  refine codeAny_call_function rm.depth (KI _ _ lk) rfl S.co S.gen rfl (PySem.W.codeRec_of KI hc) (bt _ _ _ _ ?_)
  refine wpAny_newFunctionEnv_cells S.kind kd fun env he t1 x => ?_
  subst he
  refine ⟨nl.keeps x.toInCall.keep, codeAny_func ?_⟩
  obtain ⟨r, hr, hq⟩ := hb A oe t H vs Q E g (rm.deeper _) hs
  have I0 : Inv (cxOf CX P w K mg base N ql sc f cdv A oe t H E) [] (start N vs) H t1 := inv_start S rm.hd e0 (ln _ _ _ _ hs) rl x
  refine wpAny_mono (hr.run [] t1 (start N vs) H _ I0 hq) (fun fl t2 h2 => ?_) fun _ _ h2 => h2
  match fl, h2 with
  | .ret u, ⟨v, σ1, H1, J, rv, q⟩ => exact ⟨v, H1, J.os, J.bare, J.base, J.hok, rv, q⟩
  | .next, ⟨σ1, H1, J, q⟩ => exact ⟨V.non, H1, J.os, J.bare, J.base, J.hok, rfl, q⟩
  | .brk, ⟨_, _, _, q⟩ => exact False.elim q
  | .cont, ⟨_, _, _, q⟩ => exact False.elim q
theorem fund_g {P : Program} {w : World} {K : PySem.W.Frag} {mg : Str → Option Value} {base : Heap} {x ql : Str} {pr : Arguments} {bd : List Stmt} {sc : Scope} {dvs : List V} {f : Addr} {fd : FuncData} {CX : CXT} {N ps : List Str} {k : Nat} {sp : Sp} (F : FunD K x ql pr bd sc dvs [] f fd) (S : FnScope N ps sc) (ln : ∀ vs H Q E, sp vs H Q E → vs.length = ps.length)
    (hb : ∀ (cdv : Value) (A : Around) (oe : List Env) (t : Shared) (H : Hp) (vs : List V) (Q : VK) (E : XK), PySem.W.codeIn K cdv ql = true → A.guards = some [] → Room k (A.deeper (envOfC ql sc t.heap.objs.size f cdv)) → sp vs H Q E → ∃ r, PSs (cxOf CX P w K mg base N ql sc f cdv A oe t H E) bd r ∧ r { nx := fun _ H1 => Q .non H1, rt := Q } (start N vs) H) : FnG P w K mg base CX (k + 1) f fd ps sp := by
  obtain ⟨oc, od, dV, kV, doc, pm, an, cdv, ct, osl, rfl, lk, hcd, _⟩ := F.ex
  exact fng_of lk hcd S ln fun A oe t H vs Q E g hr hs => hb cdv A oe t H vs Q E hcd g hr hs
section
variable {X : Cx} {CX : CXT} {k : Nat} {f : Addr} {fd : FuncData} {ps : List Str} {sp : Sp} {dvs : List V} {ds : List Value} {E : L2.St → XK}
theorem run_g {pn : List (Addr × Obj)} {σ : L2.St} {H : Hp} {t : Shared} {Q : VK} {us : List Value} {vs : List V} (F : FnG X.prog X.w X.K X.mg X.base CX k f fd ps sp) (hg : X.A.guards = some []) (rm : Room k X.A) (hb : Binds X.K fd ps ds) (hd : Vals dvs ds) (hx : PassesAt CX X σ (E σ))
    (I : Inv X pn σ H t) (rl : Vals vs us) (h : sp (vs ++ dvs) H Q (E σ)) : wpAny (model X.prog X.w) X.A (call (.ref f) us) (EP X pn σ Q) X.xe t := by
  have ra : Vals (vs ++ dvs) (us ++ ds) := rl.append hd
  have la : (us ++ ds).length = ps.length := ra.length.symm.trans (F.ln _ _ _ _ h)
  refine wpAny_call (codeAny_mono (F.go X.A X.stack t H ⟨us, []⟩ (us ++ ds) (vs ++ dvs) Q (E σ) hg rm I.env0 (hb t us I.kIn la) ra h) fun r t1 hr => ?_)
  match r, hr with
  | .error e, hr => exact hx pn H t e t1 I hr
  | .ok (.ret u), hr => exact I.after hr
  | .ok .next, hr => exact False.elim hr
  | .ok .brk, hr => exact False.elim hr
  | .ok .cont, hr => exact False.elim hr
theorem pe_callG {x : Str} {p pos : Pos} {e : Expr} {es : List Expr} {ta : TA} (F : FnG X.prog X.w X.K X.mg X.base CX k f fd ps sp) (gd : X.A.guards = some []) (rm : Room k X.A) (hg : Gl X x) (hm : X.mg x = some (.ref f)) (hk : PySem.W.keepIn X.K (.ref f) = true) (hb : Binds X.K fd ps ds) (hd : Vals dvs ds) (hx : ∀ σ, PassesAt CX X σ (E σ)) (ha : PA X (e :: es) ta)
    (hdb : (x == ("__debug__" : Str)) = false) (he : starEach (e :: es) X.env = (false, eval e X.env) :: starEach es X.env) (hpl : (backTo pos (starEach es X.env)).any (·.1) = false) : PE X (.Call (.Name x p) (e :: es) [] pos) (tCallSD sp dvs E ta) :=
  ⟨fun pn t σ H Q I h => wpAny_Call_Name_kw (ld_glob I hg hm (PySem.W.callWith_K (h₀ := X.base) I.ok.mod.kin hk (thn (ha.run pos pn t σ H _ I h) fun us t1 ⟨vs, H1, I1, r, q⟩ => ⟨I1.kIn, run_g F gd rm hb hd (hx σ) I1 r q⟩) he hpl) hdb)⟩
end
/-! ### the law's own call: the script and K's tables are tracked -/
theorem nm_at {K : PySem.W.Frag} {z : Addr × Str} (hz : z ∈ tabList K) : ∃ p ∈ tabC K, p.2 = z.1 := by
  unfold tabList at hz
  obtain ⟨p, hp, e⟩ := List.mem_map.mp hz
  exact ⟨p, hp, by rw [← e]⟩
theorem tabC_hd {K : PySem.W.Frag} {p : Addr × Addr} (hp : p ∈ tabC K) : PySem.W.codeHdIn K p.1 p.2 = true := by
  unfold tabC at hp
  exact (He.ba (List.mem_filter.mp hp).2).1
def isTab (K : PySem.W.Frag) (b : Addr) : Bool := ((tabC K).map (·.2)).contains b
theorem isTab_iff {K : PySem.W.Frag} {b : Addr} : isTab K b = true ↔ ∃ p ∈ tabC K, p.2 = b := by
  unfold isTab
  rw [List.contains_iff_mem]
  exact List.mem_map
/-- what the law's call begins with -/
def startH (K : PySem.W.Frag) (a : Addr) (o : Option HO) : Hp := fun b => if b = a then o else if isTab K b = true then some (.tbl #[]) else none
theorem lawG {P : Program} {w : World} {K : PySem.W.Frag} {mg mb : Str → Option Value} {CX : CXT} {k : Nat} {fa a : Addr} {fd : FuncData} {x : Str} {sp : Sp} {s₁ : Shared} {vs : List Value} {ns : List Int}
    (KI : K.In s₁.heap) (hT : ∀ p ∈ tabC K, s₁.heap.get? p.2 = some (PySem.W.tabObj #[])) (nT : ∀ p ∈ tabC K, K.lookup p.2 = none) (hns : s₁.heap.Ns mainGlobals mg) (hbn : s₁.heap.Ns builtinsNs mb) (hbb : ∀ y : Str, y ≠ "__name__" → mb y = bootBuiltins y) (hlim : s₁.heap.NoLimit) (hgn : s₁.gens = #[])
    (ha : s₁.heap.get? a = some { cls := .type "list", data := .seq vs.toArray }) (hi : IntsAre vs ns) (hl : ns.length ≤ sizeLine) (hr : Room k callerA)
    (F : ∀ base : Heap, K.In base → base.Ns mainGlobals mg → FnG P w K mg base CX k fa fd [x] sp) (hbind : ∀ (s : Shared) (u : Value), BindsTo s fd ⟨[u], []⟩ [(x, u)])
    (hsp : ∀ H : Hp, (∀ p ∈ tabC K, H p.2 = some (.tbl #[])) → SqL K H a (ns.map V.int) → sp [.ref a] H (fun v _ => v = .bl true) fun _ _ _ => False)
    (hCX : ∀ H e s', CX [] H s₁ (fun _ _ _ => False) e s' → False) :
    codeAny (model P w) callerA (.call (.ref fa) ⟨[.ref a], []⟩) (fun r s' => r = .ok (.ret (.bool true)) ∧ OldK s₁.heap s'.heap ∧ s'.os = s₁.os ∧ AllBare s'.gens) s₁ := by
  have rv := vals_ints hi
  have tabAt : ∀ b, isTab K b = true → s₁.heap.get? b = some (PySem.W.tabObj #[]) := fun b hb => by
    obtain ⟨p, hp, e⟩ := isTab_iff.mp hb
    rw [← e]; exact hT p hp
  have aN : ¬ isTab K a = true := fun z => by
    have e := (tabAt a z).symm.trans ha
    cases (show Data.fields (#[] : Array Value) = _ from congrArg Obj.data (Option.some.inj e))
  -- the law is run with H
  have key : ∀ H : Hp, (∀ p ∈ tabC K, H p.2 = some (.tbl #[])) → (∀ b, H b = none ∨ (isTab K b = true ∧ H b = some (.tbl #[])) ∨ (b = a ∧ K.lookup a = none ∧ ∃ ob xs, H b = some (.frz ob (.lst xs)))) → SqL K H a (ns.map V.int) → HOk P w H s₁.heap →
      codeAny (model P w) callerA (.call (.ref fa) ⟨[.ref a], []⟩) (fun r s' => r = .ok (.ret (.bool true)) ∧ OldK s₁.heap s'.heap ∧ s'.os = s₁.os ∧ AllBare s'.gens) s₁ := fun H hH hO hS hok => by
    have low : ∀ {b : Addr} {o : Obj}, s₁.heap.get? b = some o → H b = none → (hidT s₁.heap H).get? b = some o := fun e n => hidT_get e n
    -- what is neither a list nor an empty row of fields is hidden
    have hid : ∀ {b : Addr} {o : Obj}, s₁.heap.get? b = some o → (∀ its n, o.data ≠ .seq its n) → o.data ≠ .fields #[] → H b = none := fun {b o} e n1 n2 => by
      rcases hO b with z | ⟨z, _⟩ | ⟨z, _⟩
      · exact z
      · have q := e.symm.trans (tabAt b z)
        cases Option.some.inj q
        exact (n2 rfl).elim
      · rw [z, ha] at e
        cases e
        exact (n1 _ _ rfl).elim
    have dct : ∀ {b : Addr} {o : Obj} {es : Array DictEntry} {ep : Nat}, s₁.heap.get? b = some o → o.data = .dict es ep → H b = none := fun {b o es ep} e d =>
      hid e (fun its n z => by rw [d] at z; cases z) (fun z => by rw [d] at z; cases z)
    have nsk : ∀ {b : Addr} {m : Str → Option Value}, s₁.heap.Ns b m → (hidT s₁.heap H).Ns b m := fun ⟨o, es, ep, e, d, r⟩ => ⟨o, es, ep, low e (dct e d), d, r⟩
    have kb : K.In (hidT s₁.heap H) := fun b o e => low (KI b o e) (by
      rcases hO b with z | ⟨z, _⟩ | ⟨z, y, _⟩
      · exact z
      · obtain ⟨p, hp, q⟩ := isTab_iff.mp z
        rw [← q, nT p hp] at e
        cases e
      · rw [z, y] at e
        cases e)
    have md : Mod K mg (hidT s₁.heap H) := ⟨kb, nsk hns, ⟨mb, nsk hbn, hbb⟩, hlim.elim fun mc hm => ⟨mc, nsk hm.1, hm.2⟩⟩
    have en : Env0 P w K mg (hidT s₁.heap H) callerA [] s₁ H := ⟨rfl, md, fun b o e => of_hidT e, Nat.le_of_eq (hidT_size _ _), trivial, (fun b hb => nomatch (show b ∈ ([] : List Addr) from hb)), hok, .of_eq hgn⟩
    refine codeAny_mono ((F _ kb (nsk hns)).go callerA [] s₁ H ⟨[.ref a], []⟩ [.ref a] [.ref a] _ _ rfl hr en (hbind s₁ (.ref a)) (.cons rfl .nil) (hsp H hH hS)) fun r t h => ?_
    match r, h with
    | .error e, h => exact (hCX H e t h).elim
    | .ok .next, h => exact False.elim h
    | .ok .brk, h => exact False.elim h
    | .ok .cont, h => exact False.elim h
    | .ok (.ret u), ⟨v, H1, os, bare, un, hok1, rv, q⟩ =>
      have q : v = .bl true := q
      subst q
      obtain rfl : u = Value.bool true := rv
      have kept : ∀ b o, ¬ isTab K b = true → s₁.heap.get? b = some o → t.heap.get? b = some o := fun b o nb e => by
        rcases hO b with z | ⟨z, _⟩ | ⟨_, _, ob, xs, z⟩
        · exact un.keep b o e z (fun y => nomatch (show b ∈ ([] : List Addr) from y)) (by simp)
        · exact (nb z).elim
        · obtain ⟨e1, _⟩ := hok b _ z
          obtain ⟨e2, _⟩ := hok1 b _ (un.frzs b ob _ z)
          rw [e] at e1
          cases e1
          exact e2
      have more : ∀ b, isTab K b = true → ∃ m : Array Value, t.heap.get? b = some (PySem.W.tabObj m) := fun b hb => by
        obtain ⟨p, hp, rfl⟩ := isTab_iff.mp hb
        obtain ⟨m, z⟩ := un.tbls p.2 #[] (hH p hp)
        exact ⟨_, hok1 p.2 _ z⟩
      refine ⟨rfl, ⟨fun b o e => ?_, fun b o e => ?_⟩, os, bare⟩
      · by_cases hb : isTab K b = true
        · obtain ⟨m, hm⟩ := more b hb
          have e0 := e.symm.trans (tabAt b hb)
          cases Option.some.inj e0
          obtain ⟨p, hp, rfl⟩ := isTab_iff.mp hb
          exact .inr (.inl ⟨((PySem.W.codeHd_of_K KI (tabC_hd hp)).tab (hT p hp)).isCodeTable, rfl, #[], m, rfl, by rw [Array.empty_append]; exact hm⟩)
        · exact .inl (kept b o hb e)
      · by_cases hb : isTab K b = true
        · obtain ⟨m, hm⟩ := more b hb
          exact ⟨_, hm⟩
        · exact ⟨o, kept b o hb e⟩
  have neT : ∀ p ∈ tabC K, p.2 ≠ a := fun p hp z => aN (isTab_iff.mpr ⟨p, hp, z⟩)
  have stT : ∀ o, ∀ p ∈ tabC K, startH K a o p.2 = some (.tbl #[]) := fun o p hp => by
    unfold startH
    rw [if_neg (neT p hp), if_pos (isTab_iff.mpr ⟨p, hp, rfl⟩)]
  have stA : ∀ o, startH K a o a = o := fun o => if_pos rfl
  have okT : ∀ o, (∀ u, o = some u → ObjOk P w (startH K a o) s₁.heap a u) → HOk P w (startH K a o) s₁.heap := fun o ho b u z => by
    by_cases hb : b = a
    · subst hb
      rw [stA] at z
      exact ho u z
    · unfold startH at z
      rw [if_neg hb] at z
      by_cases ht : isTab K b = true
      · rw [if_pos ht] at z
        cases z
        exact tabAt b ht
      · rw [if_neg ht] at z
        cases z
  cases hk : K.lookup a with
  | some o =>
    have e := KI a o hk
    rw [ha] at e
    cases e
    refine key (startH K a none) (stT none) (fun b => ?_) (.inr ⟨_, vs.toArray, _, hk, rfl, rfl, rfl, by rw [List.size_toArray, hi.length]; exact hl, by simpa using rv⟩) (okT none fun u z => nomatch z)
    by_cases hb : b = a
    · subst hb; exact .inl (stA none)
    · by_cases ht : isTab K b = true
      · exact .inr (.inl ⟨ht, by unfold startH; rw [if_neg hb, if_pos ht]⟩)
      · exact .inl (by unfold startH; rw [if_neg hb, if_neg ht])
  | none =>
    refine key (startH K a (some (.frz { cls := .type "list", data := .seq vs.toArray } (.lst (ns.map V.int))))) (stT _) (fun b => ?_) (.inl (.inr ⟨_, stA _⟩)) (okT _ fun u z => ?_)
    · by_cases hb : b = a
      · subst hb; exact .inr (.inr ⟨rfl, hk, _, _, stA _⟩)
      · by_cases ht : isTab K b = true
        · exact .inr (.inl ⟨ht, by unfold startH; rw [if_neg hb, if_pos ht]⟩)
        · exact .inl (by unfold startH; rw [if_neg hb, if_neg ht])
    · cases z
      exact ⟨ha, by rw [List.length_map]; exact hl, vs, _, rv, ha⟩
theorem walkG {l : PySem.W.OpenLaw} {n k : Nat} {q : Program} {loose : List Str} {XP : (Str → Option Value) → Heap → Prop} {YP : World → Heap → Prop} {d : DefRec} {CX : CXT} {x : Str} (hn : l.most = some n) (hn2 : n ≤ sizeLine) (hdf : d.params.defaults = []) (hr : Room k callerA)
    (F : ∀ (w : World) (mg : Str → Option Value) (fa : Addr) (h : Heap), YP w h → h.Ns mainGlobals mg → mg d.name = some (.ref fa) →
      ∃ (K : PySem.W.Frag) (fd : FuncData) (sp : Sp), K.In h ∧ (∀ p ∈ tabC K, h.get? p.2 = some (PySem.W.tabObj #[])) ∧ (∀ p ∈ tabC K, K.lookup p.2 = none) ∧ (∀ (s : Shared) (u : Value), BindsTo s fd ⟨[u], []⟩ [(x, u)]) ∧ (∀ (H : Hp) (a : Addr) (ns : List Int), ns.length ≤ n → (∀ p ∈ tabC K, H p.2 = some (.tbl #[])) → SqL K H a (ns.map V.int) → sp [.ref a] H (fun v _ => v = .bl true) fun _ _ _ => False) ∧
        ∀ base : Heap, K.In base → base.Ns mainGlobals mg → FnG l.prog w K mg base CX k fa fd [x] sp)
    (hCX : ∀ (H : Hp) (s : Shared) (e : Value) (s' : Shared), CX [] H s (fun _ _ _ => False) e s' → False) : PySem.W.WalkO q loose XP YP l.row.toRowW d [] (fun f vs => PySem.call f vs) := by
  refine Att.attach_call hn hdf fun w s₀ s₁ mg mb fa o pm cd doc a vs ns G Y ho hd hcd hmg hob hin hlen hgn => ?_
  obtain ⟨K, fd, sp, KI, hT, nT, hbd, hsp, hF⟩ := F w mg fa _ Y G.T.g hmg
  exact lawG KI hT nT G.T.g G.T.b G.T.builtins G.T.nolimit hgn hob hin (Nat.le_trans hlen hn2) hr hF hbd (fun H hH hS => hsp H a ns hlen hH hS) fun H e s' => hCX H s₁ e s'
end Dl
namespace Dl
open PySem PySem.Spec PyProof.Rows L2
variable {X : Cx} {K : PySem.W.Frag} {Z : Bs}
/-! ### what may leave: the wish W of the layer, and XD of the data -/
def LiftX (K : PySem.W.Frag) (Z : Bs) (W : WX) (XD : DXW) : Prop := ∀ (B : Bs) (S : Hp) (μ : Mem) (H : Hp) (σ : L2.St) (δ : Ss) (c : Str) (fs : XF) (a : Option Addr), SameB Z B → Rel K B S μ H σ δ → XRep K S H fs a → XD c fs δ μ → W (.ref (He.ga K c)) a σ H
structure Md (K : PySem.W.Frag) (Z : Bs) (X : Cx) (W : WX) (XD : DXW) : Prop where
  tk : Takes X W
  ow : PassesOwn (model X.prog X.w) X.A X.env X.xe
  lx : LiftX K Z W XD
  gd : X.A.guards = some []
abbrev WF : WX := fun _ _ _ _ => False
abbrev XD0 : DXW := fun _ _ _ _ => False
theorem md_nox (g : X.A.guards = some []) : Md K Z X.nox WF XD0 := ⟨takes0, PassesOwn.never, (fun _ _ _ _ _ _ _ _ _ _ _ _ z => z.elim), g⟩
theorem md_blk {s : Shared} {H : Hp} {scope : Scope} {cenv : Env} {fp : List Addr} (g : X.A.guards = some []) : Md K Z (X.blk s H scope cenv fp) WF XD0 := ⟨takes0, PassesOwn.never, (fun _ _ _ _ _ _ _ _ _ _ _ _ z => z.elim), g⟩
/-- a def's own wish -/
abbrev XDE (E : DX) : DXW := fun c fs _ μ => E c fs μ
/-! ### defaults -/
structure Dfl (dvs : List V) (dds : List D) : Prop where
  r : ∀ (K : PySem.W.Frag) (S : Hp), RepL K S dds dvs
theorem dfl0 : Dfl [] [] := ⟨fun _ _ => rfl⟩
/-! ### the call of a def -/
/-- a def as its callers know it: dvs its defaults, of which the first j are written -/
structure Cal (P : Program) (w : World) (K : PySem.W.Frag) (mg : Str → Option Value) (base : Heap) (k : Nat) (x : Str) (ps : List Str) (dvs : List V) (dsp : DSp) : Prop where
  ex : ∃ f fd, FnG P w K mg base (L2.CX P w) k f fd ps (up K dsp) ∧ mg x = some (.ref f) ∧ PySem.W.keepIn K (.ref f) = true ∧ ∀ j, j ≤ dvs.length → ∃ ds, Vals (dvs.drop j) ds ∧ Binds K fd ps ds
theorem simUpX {dsp : DSp} {dvs : List V} {dds : List D} {W : WX} {XD : DXW} {ta : TA} {da : DA} (hd : Dfl dvs dds) (lx : LiftX K Z W XD) (ha : SimA K Z ta da) :
    SimE K Z (tCallSD (up K dsp) dvs (WE W) ta) (fun δ μ Q => da δ μ fun ds δ1 μ1 => dsp (ds ++ dds) μ1 (fun d μ2 => Q d δ1 μ2) (fun c fs μ2 => XD c fs δ1 μ2)) := fun B hB S μ H σ δ Q QD rl k q => by
  refine ha B hB S μ H σ δ _ _ rl (fun S1 μ1 H1 δ1 xs ds e1 r1 hx q1 => ?_) q
  refine ⟨S1, μ1, ds ++ dds, fun d μ2 => QD d δ1 μ2, fun c fs μ2 => XD c fs δ1 μ2, r1.r3, RepL.append hx (hd.r K S1), q1, fun S2 μ2 H2 v d g r2 hv q2 => ?_, fun S2 μ2 H2 c fs a g r2 hx q2 => ?_⟩
  · exact k S2 μ2 H2 δ1 v d (e1.trans g.ex) (r1.grow g r2) hv q2
  · exact lx B S2 μ2 H2 σ δ1 c fs a hB (r1.grow g r2) hx q2
def dCallX (dsp : DSp) (dds : List D) (XD : DXW) (da : DA) : DE := fun δ μ Q => da δ μ fun ds δ1 μ1 => dsp (ds ++ dds) μ1 (fun d μ2 => Q d δ1 μ2) (fun c fs μ2 => XD c fs δ1 μ2)
theorem d_callX {k : Nat} {ps : List Str} {dvs : List V} {dds : List D} {dsp : DSp} {x : Str} {p pos : Pos} {e : Expr} {es : List Expr} {ta : TA} {da : DA} {W : WX} {XD : DXW} (j : Nat) (C : Cal X.prog X.w K X.mg X.base k x ps dvs dsp) (hj : j ≤ dvs.length) (hd : Dfl (dvs.drop j) dds) (hr : Room k X.A) (M : Md K Z X W XD) (ha : PDA K Z X (e :: es) ta da) (hk : X.K = K := by rfl) (hg : Gl X x := by rfl)
    (hdb : (x == ("__debug__" : Str)) = false := by decide) (he : starEach (e :: es) X.env = (false, eval e X.env) :: starEach es X.env := by rfl) (hpl : (backTo pos (starEach es X.env)).any (·.1) = false := by rfl) :
    PD K Z X (.Call (.Name x p) (e :: es) [] pos) (tCallSD (up K dsp) (dvs.drop j) (WE W) ta) (dCallX dsp dds XD da) := by
  subst hk
  obtain ⟨f, fd, F, hm, hkp, hb⟩ := C.ex
  obtain ⟨ds, hv, hb⟩ := hb j hj
  exact ⟨pe_callG F M.gd hr hg hm hkp hb hv (fun σ => passAt M.tk σ) ha.p hdb he hpl, simUpX hd M.lx ha.s⟩
/-! ### objects -/
def objOf (μ : Mem) : D → Option (Str × List (Str × D))
  | .obj C fs => some (C, fs)
  | .ref p => match μ p with
    | some (.obj C fs) => some (C, fs)
    | _ => none
  | _ => none
theorem obj_is {S : Hp} {μ : Mem} {H : Hp} (r : R3 K S μ H) {d : D} {v : V} {C : Str} {fs : List (Str × D)} (h : Rep K S d v) (e : objOf μ d = some (C, fs)) : ∃ a dx gs, v = .ref a ∧ H a = some (.ins (He.ga K C) dx gs) ∧ RepF K S fs gs := by
  cases d with
  | obj C' fs' =>
    cases (show some _ = some _ from e)
    obtain ⟨a, dx, gs, rfl, h1, h2⟩ := h
    exact ⟨a, dx, gs, rfl, exr_ins r.ex h1, h2⟩
  | ref p =>
    have h : v = .ref p := h
    unfold objOf at e
    dsimp only at e
    split at e
    · cases e
      rename_i hm
      obtain ⟨_, o, h1, dx, gs, rfl, h2⟩ := r.mu p _ hm
      exact ⟨p, dx, gs, h, h1, h2⟩
    · cases e
  | _ => cases (show none = some _ from e)
theorem RepF.look {S : Hp} {f : Str} : ∀ {fs : List (Str × D)} {gs : List (Str × V)}, RepF K S fs gs → ∀ {d : D}, fs.lookup f = some d → ∃ v, gs.lookup f = some v ∧ Rep K S d v
  | [], gs, _, d, e => by simp at e
  | (k, d) :: fs, gs, h, d', e => by
    obtain ⟨v, r, rfl, h1, h2⟩ := h
    by_cases hf : f == k
    · simp only [List.lookup, hf] at e ⊢
      cases e
      exact ⟨v, rfl, h1⟩
    · simp only [List.lookup, Bool.eq_false_iff.mpr hf] at e ⊢
      exact RepF.look h2 e
theorem RepF.none {S : Hp} {f : Str} : ∀ {fs : List (Str × D)} {gs : List (Str × V)}, RepF K S fs gs → fs.lookup f = none → gs.lookup f = none
  | [], gs, h, e => by have h : gs = [] := h; rw [h]; rfl
  | (k, d) :: fs, gs, h, e => by
    obtain ⟨v, r, rfl, h1, h2⟩ := h
    by_cases hf : f == k
    · simp only [List.lookup, hf] at e; cases e
    · simp only [List.lookup, Bool.eq_false_iff.mpr hf] at e ⊢
      exact RepF.none h2 e
theorem RepF.len {S : Hp} : ∀ {fs : List (Str × D)} {gs : List (Str × V)}, RepF K S fs gs → gs.length = fs.length
  | [], gs, h => by have h : gs = [] := h; rw [h]; rfl
  | (k, d) :: fs, gs, h => by
    obtain ⟨v, r, rfl, h1, h2⟩ := h
    rw [List.length_cons, List.length_cons, RepF.len h2]
def putD (f : Str) (d : D) : List (Str × D) → List (Str × D)
  | [] => [(f, d)]
  | (g, e) :: r => if g = f then (g, d) :: r else (g, e) :: putD f d r
theorem putF_cons (f : Str) (v : V) (g : Str) (e : V) (r : List (Str × V)) : putF f v ((g, e) :: r) = if g = f then (g, v) :: r else (g, e) :: putF f v r := by
  by_cases h : g = f
  · subst h; simp [putF]
  · simp [putF, h]
theorem RepF.put {S : Hp} {f : Str} {d : D} {v : V} (hd : Rep K S d v) : ∀ {fs : List (Str × D)} {gs : List (Str × V)}, RepF K S fs gs → RepF K S (putD f d fs) (putF f v gs)
  | [], gs, h => by have h : gs = [] := h; rw [h]; exact ⟨v, [], rfl, hd, rfl⟩
  | (k, e) :: fs, gs, h => by
    obtain ⟨u, r, rfl, h1, h2⟩ := h
    rw [putF_cons]
    unfold putD
    by_cases hk : k = f
    · rw [if_pos hk, if_pos hk]; exact ⟨v, r, rfl, hd, h2⟩
    · rw [if_neg hk, if_neg hk]; exact ⟨u, _, rfl, h1, RepF.put hd h2⟩
/-- o.f -/
def dFld (C : Str) (f : Str) (da : DE) : DE := fun δ μ Q => da δ μ fun x δ1 μ1 => ∃ fs d, objOf μ1 x = some (C, fs) ∧ fs.lookup f = some d ∧ Q d δ1 μ1
theorem d_fld {o : Expr} {f C : Str} {pos : Pos} {ta : TE} {da : DE} (hc : Cls K (He.ga K C)) (hn : NoAttr K (He.ga K C) f) (h : PD K Z X o ta da) (hk : X.K = K := by rfl) (hb : attributeBase o f X.env (eval o X.env) = eval o X.env := by rfl) : PD K Z X (.Attribute o f pos) (tFld K ta f) (dFld C f da) := by
  subst hk
  exact ⟨pe_fld h.p hb, fun B hB S μ H σ δ Q QD rl k q => by
    refine h.s B hB S μ H σ δ _ _ rl (fun S1 μ1 H1 δ1 x dx e1 r1 hx q1 => ?_) q
    obtain ⟨fs, d, e2, e3, q1⟩ := q1
    obtain ⟨a, ax, gs, rfl, h1, h2⟩ := obj_is r1.r3 hx e2
    obtain ⟨v, e4, hv⟩ := RepF.look h2 e3
    exact ⟨a, _, ax, gs, v, rfl, h1, hc, hn, e4, k S1 μ1 H1 δ1 v d e1 r1 hv q1⟩⟩
/-- o.f = e, o a cell of the memory -/
def dSetFld (C : Str) (f : Str) (da de : DE) : DS := fun DD δ μ => de δ μ fun d δ1 μ1 => da δ1 μ1 fun x δ2 μ2 => ∃ p fs, x = .ref p ∧ μ2 p = some (.obj C fs) ∧ fs.length < 1000 ∧ DD.nx δ2 (updM μ2 p (.obj C (putD f d fs)))
theorem s_setFld {o e : Expr} {f C : Str} {pos p2 : Pos} {ta te : TE} {da de : DE} (hc : Cls K (He.ga K C)) (hn : NoAttr K (He.ga K C) f) (ho : PD K Z X o ta da) (he : PD K Z X e te de) (hp : PS X (.Assign [.Attribute o f p2] e pos) (sFld K ta te f)) : PDS K Z X (.Assign [.Attribute o f p2] e pos) (sFld K ta te f) (dSetFld C f da de) :=
  ⟨hp, fun B hB S μ H σ δ E DD rl lf q => by
    refine he.s B hB S μ H σ δ _ _ rl (fun S1 μ1 H1 δ1 v d e1 r1 hv q1 => ?_) q
    refine ho.s B hB S1 μ1 H1 σ δ1 _ _ r1 (fun S2 μ2 H2 δ2 x dx e2 r2 hx q2 => ?_) q1
    obtain ⟨p, fs, rfl, hm, hl, q2⟩ := q2
    obtain ⟨_, o', h1, ax, gs, rfl, h2⟩ := r2.r3.mu p _ hm
    obtain ⟨r4, g⟩ := r2.r3.write hm (o := .ins (He.ga K C) ax (putF f v gs)) (m := .obj C (putD f d fs)) ⟨ax, _, rfl, RepF.put (Rep.mono e2 _ _ hv) h2⟩
    exact ⟨p, _, ax, gs, hx, h1, hc, hn, by rw [RepF.len h2]; exact hl, lf.nx _ _ _ σ δ2 (r2.grow g r4) q2⟩⟩
/-! ### methods -/
structure CalM (P : Program) (w : World) (K : PySem.W.Frag) (mg : Str → Option Value) (base : Heap) (k : Nat) (C m : Str) (ps : List Str) (dvs : List V) (dsp : DSp) : Prop where
  ex : ∃ f fd, FnG P w K mg base (L2.CX P w) k f fd ps (up K dsp) ∧ Meth K (He.ga K C) m f ∧ Cls K (He.ga K C) ∧ (∀ j, j ≤ dvs.length → ∃ ds, Vals (dvs.drop j) ds ∧ Binds K fd ps ds) ∧ ∃ oc od osl, K.lookup f = some ⟨oc, od, .func fd, osl⟩
def tMethSD (C : Addr) (m : Str) (sp : Sp) (dvs : List V) (E : L2.St → XK) (ta : TE) (t : TA) : TE := fun σ H Q => ta σ H fun x H1 => ∃ a dx fs, x = .ref a ∧ H1 a = some (.ins C dx fs) ∧ fs.lookup m = none ∧ t σ H1 fun vs H2 => sp (x :: (vs ++ dvs)) H2 Q (E σ)
theorem pe_methSD0 {CX : CXT} {k : Nat} {f C : Addr} {fd : FuncData} {ps : List Str} {sp : Sp} {dvs : List V} {ds : List Value} {E : L2.St → XK} {m : Str} {pos apos : Pos} {o : Expr} {ta : TE} {pl : Sem Bool} (he : PE X o ta) (c : Cls X.K C) (hm : Meth X.K C m f)
    (F : FnG X.prog X.w X.K X.mg X.base CX k f fd ps sp) (gd : X.A.guards = some []) (hr : Room k X.A) (hb : Binds X.K fd ps ds) (hd : Vals dvs ds) (hx : ∀ σ, PassesAt CX X σ (E σ))
    (ht : eval (.Call (.Attribute o m apos) [] [] pos) X.env = (do
      let ov ← eval o X.env
      standAt apos.atName
      let (f, first) ← holding [ov] (getMethod ov m pl)
      callWith pos f first (backTo pos (starEach [] X.env)) (backToKw pos (keywordEach [] X.env)))) :
    PE X (.Call (.Attribute o m apos) [] [] pos) (tMethSD C m sp dvs E ta tNil) := by
  refine ⟨fun pins s σ H Q I h => PySem.W.methodCall_KW (pl := pl) (thn (he.run pins s σ H _ I h) fun u s1 hu => ?_) ht⟩
  obtain ⟨x, H1, I1, rx, a, dx, fs, ex, ea, l, q⟩ := hu
  subst ex
  obtain rfl : u = Value.ref a := rx
  exact getmeth_ok I1 ea c hm l (PySem.W.callWith_K0 (first := [.ref a]) I1.kIn hm.kp (run_g (us := [.ref a]) (vs := [.ref a]) F gd hr hb hd (hx σ) I1 (.cons rfl .nil) q))
def dMethX (C m : Str) (dsp : DSp) (dds : List D) (XD : DXW) (do_ : DE) (da : DA) : DE := fun δ μ Q => do_ δ μ fun x δ1 μ1 => ∃ fs, objOf μ1 x = some (C, fs) ∧ fs.lookup m = none ∧ da δ1 μ1 fun ds δ2 μ2 => dsp (x :: (ds ++ dds)) μ2 (fun d μ3 => Q d δ2 μ3) (fun c fs μ3 => XD c fs δ2 μ3)
theorem simMethX {C m : Str} {dsp : DSp} {dvs : List V} {dds : List D} {W : WX} {XD : DXW} {to : TE} {do_ : DE} {ta : TA} {da : DA} (hd : Dfl dvs dds) (lx : LiftX K Z W XD) (ho : SimE K Z to do_) (ha : SimA K Z ta da) :
    SimE K Z (tMethSD (He.ga K C) m (up K dsp) dvs (WE W) to ta) (dMethX C m dsp dds XD do_ da) := fun B hB S μ H σ δ Q QD rl k q => by
  refine ho B hB S μ H σ δ _ _ rl (fun S1 μ1 H1 δ1 x dx e1 r1 hx q1 => ?_) q
  obtain ⟨fs, e2, e3, q1⟩ := q1
  obtain ⟨a, ax, gs, rfl, h1, h2⟩ := obj_is r1.r3 hx e2
  refine ⟨a, ax, gs, rfl, h1, RepF.none h2 e3, ?_⟩
  refine ha B hB S1 μ1 H1 σ δ1 _ _ r1 (fun S2 μ2 H2 δ2 xs ds e4 r2 hxs q2 => ?_) q1
  refine ⟨S2, μ2, dx :: (ds ++ dds), fun d μ3 => QD d δ2 μ3, fun c fs μ3 => XD c fs δ2 μ3, r2.r3, ⟨_, _, rfl, Rep.mono e4 _ _ hx, RepL.append hxs (hd.r K S2)⟩, q2, fun S3 μ3 H3 v d g r3 hv q3 => ?_, fun S3 μ3 H3 c fs a g r3 hx q3 => ?_⟩
  · exact k S3 μ3 H3 δ2 v d ((e1.trans e4).trans g.ex) (r2.grow g r3) hv q3
  · exact lx B S3 μ3 H3 σ δ2 c fs a hB (r2.grow g r3) hx q3
theorem d_methX0 {k : Nat} {C m : Str} {ps : List Str} {dvs : List V} {dds : List D} {dsp : DSp} {pos apos : Pos} {o : Expr} {to : TE} {do_ : DE} {W : WX} {XD : DXW} {pl : Sem Bool} (j : Nat) (F : CalM X.prog X.w K X.mg X.base k C m ps dvs dsp) (hj : j ≤ dvs.length) (hd : Dfl (dvs.drop j) dds) (hr : Room k X.A) (M : Md K Z X W XD) (ho : PD K Z X o to do_) (hk : X.K = K := by rfl)
    (ht : eval (.Call (.Attribute o m apos) [] [] pos) X.env = (do
      let ov ← eval o X.env
      standAt apos.atName
      let (f, first) ← holding [ov] (getMethod ov m pl)
      callWith pos f first (backTo pos (starEach [] X.env)) (backToKw pos (keywordEach [] X.env))) := by rfl) :
    PD K Z X (.Call (.Attribute o m apos) [] [] pos) (tMethSD (He.ga K C) m (up K dsp) (dvs.drop j) (WE W) to tNil) (dMethX C m dsp dds XD do_ dNil) := by
  subst hk
  obtain ⟨f, fd, G, hm, hc, hb, _⟩ := F.ex
  obtain ⟨ds, hv, hb⟩ := hb j hj
  exact ⟨pe_methSD0 ho.p hc hm G M.gd hr hb hv (fun σ => passAt M.tk σ) ht, simMethX hd M.lx ho.s (a_nil (X := X)).s⟩
/-! ### an object is made -/
structure CalI (P : Program) (w : World) (K : PySem.W.Frag) (mg : Str → Option Value) (base : Heap) (k : Nat) (C : Str) (ps : List Str) (dvs : List V) (dsp : DSp) : Prop where
  ex : ∃ f fd, FnG P w K mg base (L2.CX P w) k f fd ps (up K dsp) ∧ Mk K (He.ga K C) f ∧ mg C = some (.ref (He.ga K C)) ∧ ∀ j, j ≤ dvs.length → ∃ ds, Vals (dvs.drop j) ds ∧ Binds K fd ps ds
def tMakeSD (C : Addr) (sp : Sp) (dvs : List V) (E : L2.St → XK) (t : TA) : TE := fun σ H Q => t σ H fun vs H1 => ∀ x dx, H1 x = none → H1 dx = none → dx ≠ x →
  sp (.ref x :: (vs ++ dvs)) (upd (upd H1 dx (.own x)) x (.ins C dx [])) (fun v H2 => v = .non ∧ Q (.ref x) H2) (E σ)
theorem gd_make {A : Around} {C : Addr} {us : List Value} (h : A.guards = some []) : (A.under (.builtin "type.__call__" ⟨.ref C :: us, []⟩)).guards = some [] := by
  first | exact h | simpa [Around.under, Code.guards, Code.isGuard, guardIds, pushGuards] using h
theorem run_mk {CX : CXT} {k : Nat} {f C : Addr} {fd : FuncData} {ps : List Str} {sp : Sp} {dvs : List V} {ds : List Value} {E : L2.St → XK} {pins : List (Addr × Obj)} {σ : L2.St} {H : Hp} {s : Shared} {Q : VK} {us : List Value} {vs : List V}
    (M : Mk X.K C f) (F : FnG X.prog X.w X.K X.mg X.base CX k f fd ps sp) (gd : X.A.guards = some []) (hr : Room (k + 1) X.A) (hb : Binds X.K fd ps ds) (hd : Vals dvs ds) (hx : PassesAt CX X σ (E σ)) (I : Inv X pins σ H s) (r : Vals vs us)
    (h : ∀ x dx, H x = none → H dx = none → dx ≠ x → sp (.ref x :: (vs ++ dvs)) (upd (upd H dx (.own x)) x (.ins C dx [])) (fun v H2 => v = .non ∧ Q (.ref x) H2) (E σ)) :
    wpAny (model X.prog X.w) X.A (call (.ref C) us) (EP X pins σ Q) X.xe s := by
  have J := Inv.made (C := C) I
  have q := h (s.heap.objs.size + 1) s.heap.objs.size (I.hok.fresh (Nat.le_succ _)) (I.hok.fresh (Nat.le_refl _)) (Nat.ne_of_lt (Nat.lt_succ_self _))
  have rr : Vals (V.ref (s.heap.objs.size + 1) :: (vs ++ dvs)) (Value.ref (s.heap.objs.size + 1) :: (us ++ ds)) := .cons rfl (r.append hd)
  have ln : (Value.ref (s.heap.objs.size + 1) :: us ++ ds).length = ps.length := (rr.length.symm.trans (F.ln _ _ _ _ q))
  have run := F.go _ X.stack _ _ ⟨Value.ref (s.heap.objs.size + 1) :: us, []⟩ _ _ _ (E σ) (gd_make gd) (hr.make C us []) (J.env0.make C us []) (hb _ (Value.ref (s.heap.objs.size + 1) :: us) J.kIn ln) rr q
  refine wpAny_call (make_map (f := f) I.kIn M.makes M.init (beq_iff_eq.mp M.fn) (codeAny_mono run fun z s' hz => ?_))
  match z, hz with
  | .error e, hz => exact hx pins _ _ e s' J hz
  | .ok (.ret u), hz =>
    obtain ⟨v, H', I3, rv, ev, q3⟩ := J.after hz
    subst ev
    exact ⟨rv, V.ref (s.heap.objs.size + 1), H', I3, rfl, q3⟩
theorem pe_mkSD {CX : CXT} {k : Nat} {f C : Addr} {fd : FuncData} {ps : List Str} {sp : Sp} {dvs : List V} {ds : List Value} {E : L2.St → XK} {x : Str} {p pos : Pos} {e : Expr} {es : List Expr} {t : TA} (M : Mk X.K C f) (F : FnG X.prog X.w X.K X.mg X.base CX k f fd ps sp) (gd : X.A.guards = some []) (hr : Room (k + 1) X.A) (hg : Gl X x) (hm : X.mg x = some (.ref C)) (hb : Binds X.K fd ps ds) (hd : Vals dvs ds) (hx : ∀ σ, PassesAt CX X σ (E σ))
    (ha : PA X (e :: es) t) (hdb : (x == ("__debug__" : Str)) = false) (he : starEach (e :: es) X.env = (false, eval e X.env) :: starEach es X.env) (hpl : (backTo pos (starEach es X.env)).any (·.1) = false) :
    PE X (.Call (.Name x p) (e :: es) [] pos) (tMakeSD C sp dvs E t) := by
  refine ⟨fun pins s σ H Q I h => wpAny_Call_Name_kw (ld_glob I hg hm (PySem.W.callWith_K (h₀ := X.base) I.ok.mod.kin M.kp (thn (ha.run pos pins s σ H _ I h) fun us s1 hu => ?_) he hpl) hdb)⟩
  obtain ⟨vs, H1, I1, r, q⟩ := hu
  exact ⟨I1.kIn, run_mk M F gd hr hb hd (hx σ) I1 r q⟩
/-- a cell is forgotten -/
def dropM (μ : Mem) (p : Addr) : Mem := fun a => if a = p then none else μ a
theorem dropM_le (μ : Mem) (p : Addr) : LeM (dropM μ p) μ := fun a m h => by
  unfold dropM at h
  by_cases ha : a = p
  · rw [if_pos ha] at h; cases h
  · rw [if_neg ha] at h; exact h
/-- C(..): a new cell of the memory -/
def dMakeM (C : Str) (dsp : DSp) (dds : List D) (XD : DXW) (da : DA) : DE := fun δ μ Q => da δ μ fun ds δ1 μ1 => ∀ p, μ1 p = none → dsp (.ref p :: (ds ++ dds)) (updM μ1 p (.obj C [])) (fun d μ2 => d = .non ∧ Q (.ref p) δ1 μ2) (fun c fs μ2 => XD c fs δ1 (dropM μ2 p))
theorem simMakeM {C : Str} {dsp : DSp} {dvs : List V} {dds : List D} {W : WX} {XD : DXW} {ta : TA} {da : DA} (hd : Dfl dvs dds) (lx : LiftX K Z W XD) (ha : SimA K Z ta da) : SimE K Z (tMakeSD (He.ga K C) (up K dsp) dvs (WE W) ta) (dMakeM C dsp dds XD da) := fun B hB S μ H σ δ Q QD rl k q => by
  refine ha B hB S μ H σ δ _ _ rl (fun S1 μ1 H1 δ1 xs ds e1 r1 hx q1 => ?_) q
  intro p dx hp hdx hne
  have g1 : Grow S1 μ1 H1 S1 μ1 (upd H1 dx (.own p)) := ⟨Ex.refl S1, fun _ _ e => .inl e, fun a u e _ _ _ => by rw [upd_ne (ne_of_none e hdx)]; exact e, fun a n e => .inl (by rw [e]; rfl), th_upd⟩
  have r3 : R3 K S1 μ1 (upd H1 dx (.own p)) := ⟨fun a u e => exr_upd (S := S1) (r1.r3.ex a u e) (fun z => by rw [z, (r1.r3.free hdx).1] at e; cases e), fun a n e => by
    obtain ⟨h1, u, h2, h3⟩ := r1.r3.mu a n e
    exact ⟨h1, u, by rw [upd_ne (ne_of_none h2 hdx)]; exact h2, h3⟩, r1.r3.tb.w (oldX_none hdx) (fun _ z => nomatch z)⟩
  have hp2 : (upd H1 dx (.own p)) p = none := by rw [upd_ne (fun z => hne z.symm)]; exact hp
  obtain ⟨r4, g2⟩ := r3.cell (o := .ins (He.ga K C) dx []) (m := .obj C []) hp2 ⟨dx, [], rfl, rfl⟩
  have g := g1.trans g2
  refine ⟨S1, updM μ1 p (.obj C []), .ref p :: (ds ++ dds), fun d μ2 => d = .non ∧ QD (.ref p) δ1 μ2, fun c fs μ2 => XD c fs δ1 (dropM μ2 p), r4, ⟨_, _, rfl, rfl, RepL.append hx (hd.r K S1)⟩, q1 p (r1.r3.free hp).2, fun S2 μ2 H2 v d g3 r5 hv q2 => ?_, fun S2 μ2 H2 c fs a g3 r5 hx q2 => ?_⟩
  · obtain ⟨rfl, q2⟩ := q2
    exact ⟨hv, k S2 μ2 H2 δ1 _ (.ref p) (e1.trans g3.ex) (r1.grow (g.trans g3) r5) rfl q2⟩
  · exact lx B S2 (dropM μ2 p) H2 σ δ1 c fs a hB ((r1.grow (g.trans g3) r5).leM (dropM_le μ2 p)) hx q2
/-- a cell is frozen -/
theorem dropM_upd {μ : Mem} {p : Addr} {m : MO} (h : μ p = none) : dropM (updM μ p m) p = μ := by
  funext a
  unfold dropM updM
  by_cases ha : a = p
  · rw [if_pos ha, ha, h]
  · rw [if_neg ha, if_neg ha]
theorem R3.freezeM {S : Hp} {μ : Mem} {H : Hp} (r : R3 K S μ H) {p : Addr} {m : MO} (h : μ p = some m) : ∃ o, R3 K (upd S p o) (dropM μ p) H ∧ Grow S μ H (upd S p o) (dropM μ p) H ∧ Rep K (upd S p o) (frozen m) (.ref p) := by
  obtain ⟨hs, o, ho, hm⟩ := r.mu p m h
  have e : Ex S (upd S p o) := Ex.new hs
  have dm : ∀ a n, dropM μ p a = some n → a ≠ p ∧ μ a = some n := fun a n z => by
    unfold dropM at z
    by_cases ha : a = p
    · rw [if_pos ha] at z; cases z
    · rw [if_neg ha] at z; exact ⟨ha, z⟩
  refine ⟨o, ⟨fun a u z => ?_, fun a n z => ?_, (r.tb.s (oldX_some ho hm.nx)).d (dropM_le μ p)⟩, ⟨e, fun a u z => ?_, fun a u z _ _ _ => z, fun a n z => .inl (by rw [(dm a n z).2]; rfl), fun a u z => ⟨u, z⟩⟩, RepM.frozen hs hm⟩
  · by_cases ha : a = p
    · subst ha; rw [upd_same] at z; cases z; exact .inl ⟨ho, hm.notMet⟩
    · rw [upd_ne ha] at z; exact r.ex a u z
  · obtain ⟨ha, z⟩ := dm a n z
    obtain ⟨h1, u, h2, h3⟩ := r.mu a n z
    exact ⟨by rw [upd_ne ha]; exact h1, u, h2, RepM.mono e n u h3⟩
  · by_cases ha : a = p
    · subst ha; exact .inr (.inr (.inl (by rw [h]; rfl)))
    · rw [upd_ne ha] at z; exact .inl z
/-- C(..): an object that stays as __init__ leaves it -/
def dMakeI (C : Str) (dsp : DSp) (dds : List D) (XD : DXW) (da : DA) : DE := fun δ μ Q => da δ μ fun ds δ1 μ1 => ∀ p, μ1 p = none → dsp (.ref p :: (ds ++ dds)) (updM μ1 p (.obj C [])) (fun d μ2 => d = .non ∧ ∃ p' fs, D.ref p = .ref p' ∧ μ2 p' = some (.obj C fs) ∧ Q (.obj C fs) δ1 (dropM μ2 p')) (fun c fs μ2 => XD c fs δ1 (dropM μ2 p))
theorem simMakeI {C : Str} {dsp : DSp} {dvs : List V} {dds : List D} {W : WX} {XD : DXW} {ta : TA} {da : DA} (hd : Dfl dvs dds) (lx : LiftX K Z W XD) (ha : SimA K Z ta da) : SimE K Z (tMakeSD (He.ga K C) (up K dsp) dvs (WE W) ta) (dMakeI C dsp dds XD da) := fun B hB S μ H σ δ Q QD rl k q => by
  refine simMakeM hd lx ha B hB S μ H σ δ Q (fun d δ1 μ1 => ∃ p fs, d = .ref p ∧ μ1 p = some (.obj C fs) ∧ QD (.obj C fs) δ1 (dropM μ1 p)) rl (fun S1 μ1 H1 δ1 v d e1 r1 hv q1 => ?_) ?_
  · obtain ⟨p, fs, rfl, hm, q1⟩ := q1
    obtain ⟨o, r3, g, hr⟩ := r1.r3.freezeM hm
    have hv : v = .ref p := hv
    subst hv
    exact k _ _ _ δ1 _ (.obj C fs) (e1.trans g.ex) (r1.grow g r3) hr q1
  · exact q
end Dl
namespace Dl
open PySem PySem.Spec PyProof.Rows L2
variable {X : Cx} {K : PySem.W.Frag} {Z : Bs}
/-! ### making, as rules -/
theorem d_makeI {k : Nat} {C : Str} {ps : List Str} {dvs : List V} {dds : List D} {dsp : DSp} {p pos : Pos} {e : Expr} {es : List Expr} {ta : TA} {da : DA} {W : WX} {XD : DXW} (j : Nat) (F : CalI X.prog X.w K X.mg X.base k C ps dvs dsp) (hj : j ≤ dvs.length) (hd : Dfl (dvs.drop j) dds) (hr : Room (k + 1) X.A) (M : Md K Z X W XD) (ha : PDA K Z X (e :: es) ta da) (hk : X.K = K := by rfl) (hg : Gl X C := by rfl)
    (hdb : (C == ("__debug__" : Str)) = false := by decide) (he : starEach (e :: es) X.env = (false, eval e X.env) :: starEach es X.env := by rfl) (hpl : (backTo pos (starEach es X.env)).any (·.1) = false := by rfl) :
    PD K Z X (.Call (.Name C p) (e :: es) [] pos) (tMakeSD (He.ga K C) (up K dsp) (dvs.drop j) (WE W) ta) (dMakeI C dsp dds XD da) := by
  subst hk
  obtain ⟨f, fd, G, hm, hc, hb⟩ := F.ex
  obtain ⟨ds, hv, hb⟩ := hb j hj
  exact ⟨pe_mkSD hm G M.gd hr hg hc hb hv (fun σ => passAt M.tk σ) ha.p hdb he hpl, simMakeI hd M.lx ha.s⟩
/-! ### defs -/
theorem lift_def {S : Hp} {μ : Mem} {H : Hp} {E : XK} {ED : DX} (kx : ∀ S' μ' H' c fs a, Grow S μ H S' μ' H' → R3 K S' μ' H' → XRep K S' H' fs a → ED c fs μ' → E (.ref (He.ga K c)) a H') : LiftX K ⟨S, μ, H, S, fun _ => none⟩ (fun cls d _ H' => E cls d H') (XDE ED) :=
  fun B S' μ' H' σ δ c fs a hB r hx q => by
    exact kx S' μ' H' c fs a (r.back hB).gr r.r3 hx q
/-- THE RULE for a def: E is what may leave -/
theorem fn_ofX {P : Program} {w : World} {mg : Str → Option Value} {base : Heap} {x qual : Str} {params : Arguments} {body : List Stmt} {scope : Scope} {dvs : List V} {f : Addr} {fd : FuncData} {N ps : List Str} {k : Nat} {dsp : DSp} {rd : DX → DS} (G : FunD K x qual params body scope dvs [] f fd) (Sc : FnScope N ps scope) (len : ∀ ds μ Q E, dsp ds μ Q E → ds.length = ps.length)
    (hbody : ∀ (Z : Bs) (cdv : Value) (A : Around) (outer : List Env) (s : Shared) (H : Hp) (E : XK) (ED : DX), Room k (A.deeper (envOfC qual scope s.heap.objs.size f cdv)) → Md K Z (cxOf (L2.CX P w) P w K mg base N qual scope f cdv A outer s H E) (fun cls d _ H => E cls d H) (XDE ED) → PySem.W.codeIn K cdv qual = true → ∃ t, PDSs K Z (cxOf (L2.CX P w) P w K mg base N qual scope f cdv A outer s H E) body t (rd ED))
    (hread : ∀ ds μ Q E, dsp ds μ Q E → rd E { nx := fun _ μ' => Q .non μ', rt := Q } (startD N.length ds) μ) : FnG P w K mg base (L2.CX P w) (k + 1) f fd ps (up K dsp) := by
  refine fund_g G Sc (fun vs H Q E h => ?_) (fun cdv A outer s H vs Q E hcd gd hr h => ?_)
  · obtain ⟨S, μ, ds, QD, ED, _, hl, hs, _⟩ := h
    rw [RepL.length hl]
    exact len _ _ _ _ hs
  · obtain ⟨S, μ, ds, QD, ED, r, hl, hs, kq, kx⟩ := h
    obtain ⟨t, b⟩ := hbody ⟨S, μ, H, S, fun _ => none⟩ cdv A outer s H E ED hr ⟨takes_of rfl rfl rfl rfl, passes_of rfl, lift_def kx, gd⟩ hcd
    exact ⟨t, b.p, b.s ⟨S, μ, H, S, fun _ => none⟩ (SameB.refl _) S μ H (start N vs) _ _ { nx := fun _ μ' => QD .non μ', rt := QD } (start_rel r hl) ⟨fun S' μ' H' σ' δ' r' q' => kq S' μ' H' .non .non r'.gr r'.r3 rfl q', fun S' μ' H' v d r' g' hv q' => kq S' μ' H' v d g' r' hv q', (fun _ _ _ _ _ _ z => z.elim), (fun _ _ _ _ _ _ z => z.elim)⟩ (hread ds μ QD ED hs)⟩
/-- the law's def: nothing leaves -/
theorem fn_of0 {P : Program} {w : World} {mg : Str → Option Value} {base : Heap} {x qual : Str} {params : Arguments} {body : List Stmt} {scope : Scope} {dvs : List V} {f : Addr} {fd : FuncData} {N ps : List Str} {k : Nat} {dsp : DSp} {rd : DX → DS} (G : FunD K x qual params body scope dvs [] f fd) (Sc : FnScope N ps scope) (len : ∀ ds μ Q E, dsp ds μ Q E → ds.length = ps.length)
    (hbody : ∀ (Z : Bs) (cdv : Value) (A : Around) (outer : List Env) (s : Shared) (H : Hp) (E : XK), Room k (A.deeper (envOfC qual scope s.heap.objs.size f cdv)) → Md K Z (cxOf CX0 P w K mg base N qual scope f cdv A outer s H E).nox WF (XDE X0) → PySem.W.codeIn K cdv qual = true → ∃ t, PDSs K Z (cxOf CX0 P w K mg base N qual scope f cdv A outer s H E).nox body t (rd X0))
    (hread : ∀ ds μ Q E, dsp ds μ Q E → rd X0 { nx := fun _ μ' => Q .non μ', rt := Q } (startD N.length ds) μ) : FnG P w K mg base CX0 (k + 1) f fd ps (up K dsp) := by
  refine fund_g G Sc (fun vs H Q E h => ?_) (fun cdv A outer s H vs Q E hcd gd hr h => ?_)
  · obtain ⟨S, μ, ds, QD, ED, _, hl, hs, _⟩ := h
    rw [RepL.length hl]
    exact len _ _ _ _ hs
  · obtain ⟨S, μ, ds, QD, ED, r, hl, hs, kq, kx⟩ := h
    obtain ⟨t, b⟩ := hbody ⟨S, μ, H, S, fun _ => none⟩ cdv A outer s H E hr (md_nox gd) hcd
    exact ⟨t, b.p.nox, b.s ⟨S, μ, H, S, fun _ => none⟩ (SameB.refl _) S μ H (start N vs) _ _ { nx := fun _ μ' => QD .non μ', rt := QD } (start_rel r hl) ⟨fun S' μ' H' σ' δ' r' q' => kq S' μ' H' .non .non r'.gr r'.r3 rfl q', fun S' μ' H' v d r' g' hv q' => kq S' μ' H' v d g' r' hv q', (fun _ _ _ _ _ _ z => z.elim), (fun _ _ _ _ _ _ z => z.elim)⟩ (hread ds μ QD ED hs)⟩
/-! ### how a def stands behind the top -/
structure At (K : PySem.W.Frag) (mg : Str → Option Value) (x : Str) (st : Stmt) (dvs : List V) : Prop where
  ex : ∃ f fd, FunD K x x (defArgs st) (defBody st) (defScope st) dvs [] f fd ∧ mg x = some (.ref f)
structure AtM (K : PySem.W.Frag) (C m qual : Str) (st : Stmt) (dvs : List V) : Prop where
  ex : ∃ f fd, FunD K m qual (defArgs st) (defBody st) (defScope st) dvs [] f fd ∧ Meth K (He.ga K C) m f ∧ Cls K (He.ga K C)
structure AtI (K : PySem.W.Frag) (mg : Str → Option Value) (C qual : Str) (st : Stmt) (dvs : List V) : Prop where
  ex : ∃ f fd, FunD K "__init__" qual (defArgs st) (defBody st) (defScope st) dvs [] f fd ∧ Mk K (He.ga K C) f ∧ mg C = some (.ref (He.ga K C))
/-- what its callers may leave out -/
def BindOk (x qual : Str) (st : Stmt) (ps : List Str) : List V → Prop
  | [] => ∀ (kV doc pm : Value) (an : Option Addr) (cdv ct : Value) (us : List Value), us.length = ps.length → bindArgs (PySem.W.fnOf x qual (defArgs st) (defBody st) (defScope st) .none kV doc pm an cdv ct) ⟨us, []⟩ = pure (ps.zip us)
  | d :: dvs => (dvs.length + 1 ≤ ps.length) ∧ ∀ (j : Nat), j ≤ dvs.length + 1 → ∀ (T : Addr) (kV doc pm : Value) (an : Option Addr) (cdv ct : Value) (us its : List Value), us.length + (dvs.length + 1) = ps.length + j → its.length = dvs.length + 1 →
      ∃ k, bindArgs (PySem.W.fnOf x qual (defArgs st) (defBody st) (defScope st) (.ref T) kV doc pm an cdv ct) ⟨us, []⟩ = seqItems? (.ref T) >>= k ∧ k (some its.toArray) = pure (ps.zip (us ++ its.drop j))
theorem binds_of {x qual : Str} {st : Stmt} {ps : List Str} {dvs : List V} {f : Addr} {fd : FuncData} (G : FunD K x qual (defArgs st) (defBody st) (defScope st) dvs [] f fd) (h : BindOk x qual st ps dvs) : ∀ j, j ≤ dvs.length → ∃ ds, Vals (dvs.drop j) ds ∧ Binds K fd ps ds := by
  cases dvs with
  | nil =>
    intro j hj
    refine ⟨[], by simpa using Paired.nil, G.bindsN h⟩
  | cons d dvs =>
    intro j hj
    obtain ⟨hl, h⟩ := h
    have hj : j ≤ dvs.length + 1 := by simpa using hj
    refine G.binds1 (ps.length + j - (dvs.length + 1)) j (by simp) (by simp; omega) fun T kV doc pm an cdv ct us its h1 h2 => ?_
    exact h j hj T kV doc pm an cdv ct us its (by omega) (by simpa using h2)
theorem cal_of {P : Program} {w : World} {mg : Str → Option Value} {base : Heap} {x : Str} {st : Stmt} {N ps : List Str} {k : Nat} {dsp : DSp} {dvs : List V} {rd : DX → DS} (F : At K mg x st dvs) (Sc : FnScope N ps (defScope st)) (len : ∀ ds μ Q E, dsp ds μ Q E → ds.length = ps.length) (hbd : BindOk x x st ps dvs)
    (hbody : ∀ (f : Addr) (Z : Bs) (cdv : Value) (A : Around) (outer : List Env) (s : Shared) (H : Hp) (E : XK) (ED : DX), Room k (A.deeper (envOfC x (defScope st) s.heap.objs.size f cdv)) → Md K Z (cxOf (L2.CX P w) P w K mg base N x (defScope st) f cdv A outer s H E) (fun cls d _ H => E cls d H) (XDE ED) → PySem.W.codeIn K cdv x = true → ∃ t, PDSs K Z (cxOf (L2.CX P w) P w K mg base N x (defScope st) f cdv A outer s H E) (defBody st) t (rd ED))
    (hread : ∀ ds μ Q E, dsp ds μ Q E → rd E { nx := fun _ μ' => Q .non μ', rt := Q } (startD N.length ds) μ) : Cal P w K mg base (k + 1) x ps dvs dsp := by
  obtain ⟨f, fd, G, hm⟩ := F.ex
  exact ⟨f, fd, fn_ofX G Sc len (hbody f) hread, hm, G.kp, binds_of G hbd⟩
theorem calM_of {P : Program} {w : World} {mg : Str → Option Value} {base : Heap} {C m qual : Str} {st : Stmt} {N ps : List Str} {k : Nat} {dsp : DSp} {dvs : List V} {rd : DX → DS} (F : AtM K C m qual st dvs) (Sc : FnScope N ps (defScope st)) (len : ∀ ds μ Q E, dsp ds μ Q E → ds.length = ps.length) (hbd : BindOk m qual st ps dvs)
    (hbody : ∀ (f : Addr) (Z : Bs) (cdv : Value) (A : Around) (outer : List Env) (s : Shared) (H : Hp) (E : XK) (ED : DX), Room k (A.deeper (envOfC qual (defScope st) s.heap.objs.size f cdv)) → Md K Z (cxOf (L2.CX P w) P w K mg base N qual (defScope st) f cdv A outer s H E) (fun cls d _ H => E cls d H) (XDE ED) → PySem.W.codeIn K cdv qual = true → ∃ t, PDSs K Z (cxOf (L2.CX P w) P w K mg base N qual (defScope st) f cdv A outer s H E) (defBody st) t (rd ED))
    (hread : ∀ ds μ Q E, dsp ds μ Q E → rd E { nx := fun _ μ' => Q .non μ', rt := Q } (startD N.length ds) μ) : CalM P w K mg base (k + 1) C m ps dvs dsp := by
  obtain ⟨f, fd, G, hm, hc⟩ := F.ex
  exact ⟨f, fd, fn_ofX G Sc len (hbody f) hread, hm, hc, binds_of G hbd, by
    obtain ⟨oc, od, dV, kV, doc, pm, an, cdv, ct, osl, _, lk, _⟩ := G.ex
    exact ⟨oc, od, osl, lk⟩⟩
theorem calI_of {P : Program} {w : World} {mg : Str → Option Value} {base : Heap} {C qual : Str} {st : Stmt} {N ps : List Str} {k : Nat} {dsp : DSp} {dvs : List V} {rd : DX → DS} (F : AtI K mg C qual st dvs) (Sc : FnScope N ps (defScope st)) (len : ∀ ds μ Q E, dsp ds μ Q E → ds.length = ps.length) (hbd : BindOk "__init__" qual st ps dvs)
    (hbody : ∀ (f : Addr) (Z : Bs) (cdv : Value) (A : Around) (outer : List Env) (s : Shared) (H : Hp) (E : XK) (ED : DX), Room k (A.deeper (envOfC qual (defScope st) s.heap.objs.size f cdv)) → Md K Z (cxOf (L2.CX P w) P w K mg base N qual (defScope st) f cdv A outer s H E) (fun cls d _ H => E cls d H) (XDE ED) → PySem.W.codeIn K cdv qual = true → ∃ t, PDSs K Z (cxOf (L2.CX P w) P w K mg base N qual (defScope st) f cdv A outer s H E) (defBody st) t (rd ED))
    (hread : ∀ ds μ Q E, dsp ds μ Q E → rd E { nx := fun _ μ' => Q .non μ', rt := Q } (startD N.length ds) μ) : CalI P w K mg base (k + 1) C ps dvs dsp := by
  obtain ⟨f, fd, G, hm, hc⟩ := F.ex
  exact ⟨f, fd, fn_ofX G Sc len (hbody f) hread, hm, hc, binds_of G hbd⟩
/-! ### what a def leaves behind may be forgotten -/
def dspW (dsp : DSp) : DSp := fun ds μ Q E => ∃ Q0 E0, dsp ds μ Q0 E0 ∧ Q = Qw Q0 ∧ E = Ew E0
theorem up_w {dsp : DSp} {vs : List V} {H : Hp} {Q : VK} {E : XK} (h : up K dsp vs H Q E) : up K (dspW dsp) vs H Q E := by
  obtain ⟨S, μ, ds, QD, ED, r, hl, hs, kq, kx⟩ := h
  refine ⟨S, μ, ds, Qw QD, Ew ED, r, hl, ⟨QD, ED, hs, rfl, rfl⟩, fun S' μ' H' v d g r' hv q => ?_, fun S' μ' H' c fs a g r' hx q => ?_⟩
  · obtain ⟨μ0, l, q⟩ := q
    exact kq S' μ0 H' v d (g.le l) (r'.leM l) hv q
  · obtain ⟨μ0, l, q⟩ := q
    exact kx S' μ0 H' c fs a (g.le l) (r'.leM l) hx q
theorem FnG.w {P : Program} {w : World} {mg : Str → Option Value} {base : Heap} {CX : CXT} {k : Nat} {f : Addr} {fd : FuncData} {ps : List Str} {dsp : DSp} (F : FnG P w K mg base CX k f fd ps (up K (dspW dsp))) : FnG P w K mg base CX k f fd ps (up K dsp) :=
  ⟨fun vs H Q E h => F.ln vs H Q E (up_w h), fun A oe t H ar us vs Q E g r e b v h => F.go A oe t H ar us vs Q E g r e b v (up_w h)⟩
theorem Cal.w {P : Program} {w : World} {mg : Str → Option Value} {base : Heap} {k : Nat} {x : Str} {ps : List Str} {dvs : List V} {dsp : DSp} (C : Cal P w K mg base k x ps dvs (dspW dsp)) : Cal P w K mg base k x ps dvs dsp := by
  obtain ⟨f, fd, F, r⟩ := C.ex
  exact ⟨f, fd, F.w, r⟩
theorem CalM.w {P : Program} {w : World} {mg : Str → Option Value} {base : Heap} {k : Nat} {C x : Str} {ps : List Str} {dvs : List V} {dsp : DSp} (c : CalM P w K mg base k C x ps dvs (dspW dsp)) : CalM P w K mg base k C x ps dvs dsp := by
  obtain ⟨f, fd, F, r⟩ := c.ex
  exact ⟨f, fd, F.w, r⟩
theorem CalI.w {P : Program} {w : World} {mg : Str → Option Value} {base : Heap} {k : Nat} {C : Str} {ps : List Str} {dvs : List V} {dsp : DSp} (c : CalI P w K mg base k C ps dvs (dspW dsp)) : CalI P w K mg base k C ps dvs dsp := by
  obtain ⟨f, fd, F, r⟩ := c.ex
  exact ⟨f, fd, F.w, r⟩
/-- the law's own -/
structure Cal0 (P : Program) (w : World) (K : PySem.W.Frag) (mg : Str → Option Value) (base : Heap) (k : Nat) (x : Str) (ps : List Str) (dsp : DSp) : Prop where
  ex : ∃ f fd, FnG P w K mg base CX0 k f fd ps (up K dsp) ∧ mg x = some (.ref f) ∧ (∀ (s : Shared) (us : List Value), us.length = ps.length → BindsTo s fd ⟨us, []⟩ (ps.zip us)) ∧ ∃ oc od osl, K.lookup f = some ⟨oc, od, .func fd, osl⟩
theorem cal0_of {P : Program} {w : World} {mg : Str → Option Value} {base : Heap} {x : Str} {st : Stmt} {N ps : List Str} {k : Nat} {dsp : DSp} {rd : DX → DS} (F : At K mg x st []) (Sc : FnScope N ps (defScope st)) (len : ∀ ds μ Q E, dsp ds μ Q E → ds.length = ps.length) (hbd : BindOk x x st ps [])
    (hbody : ∀ (f : Addr) (Z : Bs) (cdv : Value) (A : Around) (outer : List Env) (s : Shared) (H : Hp) (E : XK), Room k (A.deeper (envOfC x (defScope st) s.heap.objs.size f cdv)) → Md K Z (cxOf CX0 P w K mg base N x (defScope st) f cdv A outer s H E).nox WF (XDE X0) → PySem.W.codeIn K cdv x = true → ∃ t, PDSs K Z (cxOf CX0 P w K mg base N x (defScope st) f cdv A outer s H E).nox (defBody st) t (rd X0))
    (hread : ∀ ds μ Q E, dsp ds μ Q E → rd X0 { nx := fun _ μ' => Q .non μ', rt := Q } (startD N.length ds) μ) : Cal0 P w K mg base (k + 1) x ps dsp := by
  obtain ⟨f, fd, G, hm⟩ := F.ex
  exact ⟨f, fd, fn_of0 G Sc len (hbody f) hread, hm, G.bindsA hbd, by
    obtain ⟨oc, od, dV, kV, doc, pm, an, cdv, ct, osl, _, lk, _⟩ := G.ex
    exact ⟨oc, od, osl, lk⟩⟩
/-! ### a list of the memory -/
def dAppM (da de : DE) : DS := fun DD δ μ => da δ μ fun x δ1 μ1 => (∃ p l, x = .ref p ∧ μ1 p = some (.lst l)) ∧ de δ1 μ1 fun d δ2 μ2 => ∃ p l, x = .ref p ∧ μ2 p = some (.lst l) ∧ l.length < sizeLine ∧ DD.nx δ2 (updM μ2 p (.lst (l ++ [d])))
theorem s_setFldP {o e : Expr} {f C : Str} {pos p2 : Pos} {ta te : TE} {da de : DE} (hc : Cls K (He.ga K C)) (hn : NoAttr K (He.ga K C) f) (ho : PD K Z X o ta da) (he : PD K Z X e te de) (hs : swapsWith e (some (.Attribute o f p2)) pos.line X.env = pure false := by rfl) (hk : X.K = K := by rfl) :
    PDS K Z X (.Assign [.Attribute o f p2] e pos) (sFld K ta te f) (dSetFld C f da de) := by
  subst hk
  exact s_setFld hc hn ho he (ps_fld ho.p he.p hs)
end Dl
namespace Dl
open PySem PySem.Spec PyProof.Rows L2
variable {X : Cx} {K : PySem.W.Frag} {Z : Bs}
/-! ### own exceptions -/
structure Ec (K : PySem.W.Frag) (mg : Str → Option Value) (C : Str) : Prop where
  q : PySem.W.excIn K (He.ga K C) He.veBase "ValueError.__new__" = true
  kp : PySem.W.keepIn K (.ref (He.ga K C)) = true
  r1 : PySem.W.subIn K (.ref (He.ga K C)) (.type "BaseException") = some true
  r2 : PySem.W.typeIn K (.ref (He.ga K C)) = some (.type "type")
  g : mg C = some (.ref (He.ga K C))
theorem pmk_none {C : Str} {p pos : Pos} (c : Ec X.K X.mg C) (hg : Gl X C) (hdb : (C == ("__debug__" : Str)) = false) : PMk X (.Call (.Name C p) [] [] pos) (fun _ H Q => Q (.ref (He.ga X.K C)) none H) := fun pins s σ H Q I h =>
  wpAny_Call_Name_kw (ld_glob I hg c.g (PySem.W.callWith_K0 I.kIn c.kp (by
    obtain ⟨_, _, _, _, _, _, _, _, _, _, _, _, _, _, _, _, _, h1, h2, h3, h4⟩ := exc_obj I.kIn c.q
    show wpAny _ _ (call _ []) _ _ _
    exact wpAny_call_exc_subT PySem.F.excBase_ValueError h4 h1 h2 h3 (fun h' e hm => mk_of I hm (raises_own c.r1 c.r2) h (I.hok.gone hm.new)) (by show 0 ≤ sizeLine; exact Nat.zero_le _))) hdb)
def dRaise (XD : DXW) (C : Str) : DS := fun _ δ μ => XD C none δ μ
theorem s_raise {C : Str} {p pos pos' : Pos} {W : WX} {XD : DXW} (M : Md K Z X W XD) (c : Ec K X.mg C) (hc : X.calm = true := by rfl) (hk : X.K = K := by rfl) (hg : Gl X C := by rfl) (hdb : (C == ("__debug__" : Str)) = false := by decide) :
    PDS K Z X (.Raise (some (.Call (.Name C p) [] [] pos)) none pos') (fun _ σ H => W (.ref (He.ga K C)) none σ H) (dRaise XD C) := by
  subst hk
  exact ⟨ps_raise hc M.tk (pmk_none c hg hdb), fun B hB S μ H σ δ E DD rl lf q => M.lx B S μ H σ δ C none none hB rl rfl q⟩
/-! ### a caught exception stays as an object -/
/-! ### which class is under which -/
def excD (c : Str) : XF → D
  | none => .exc c [] false
  | some fs => .exc c fs true
def dTry (EX : List Str) (CN : Str) (i : Nat) (XD : DXW) (db : DXW → DS) (dsu : DS) : DS := fun DD δ μ =>
  db (fun c fs δ1 μ1 => EX.contains c = true ∧ if isb c CN = true then dsu ⟨fun δ2 μ2 => DD.nx (δ2.set i .no) μ2, DD.rt, fun δ2 μ2 => DD.bk (δ2.set i .no) μ2, fun δ2 μ2 => DD.ct (δ2.set i .no) μ2⟩ (δ1.set i (.val (excD c fs))) μ1 else XD c fs δ1 μ1) DD δ μ
/-- an exception becomes a value -/
theorem Rel.keep {B : Bs} {S : Hp} {μ : Mem} {H : Hp} {σ : L2.St} {δ : Ss} (r : Rel K B S μ H σ δ) {a : Addr} {c : Str} {fs : XF} {d : Option Addr} (ha : H a = none) (hx : XRep K S H fs d) :
    ∃ S', Rel K B S' μ (upd H a (ExO a (.ref (He.ga K c)) d)) σ δ ∧ Rep K S' (excD c fs) (.ref a) := by
  obtain ⟨r3, g⟩ := r.r3.alloc (o := ExO a (.ref (He.ga K c)) d) ha
  refine ⟨_, r.grow g r3, ?_⟩
  cases fs with
  | none =>
    have hx : d = none := hx
    subst hx
    exact ⟨a, rfl, upd_same, rfl⟩
  | some fs =>
    obtain ⟨x, vs, rfl, h1, h2⟩ := hx
    exact ⟨a, x, vs, rfl, upd_same, g.ex _ _ h1, RepF.mono g.ex _ _ h2⟩
/-- .. without a name -/
def dTry0 (EX : List Str) (CN : Str) (XD : DXW) (db : DXW → DS) (dsu : DS) : DS := fun DD δ μ =>
  db (fun c fs δ1 μ1 => EX.contains c = true ∧ if isb c CN = true then dsu DD δ1 μ1 else XD c fs δ1 μ1) DD δ μ
/-! ### isinstance with an own class -/
/-- an own exception class, as isinstance asks it -/
structure Ins (K : PySem.W.Frag) (D : Addr) : Prop where
  ha : PySem.W.findIn K (.ref D) "__class__" = some (some (.builtin "object.__class__"))
  hn : PySem.W.specialIn K (.builtin "object.__class__") "__get__" = some (some (.builtin "getset_descriptor.__get__"))
  ht : PySem.W.takesIn K (.builtin "object.__class__") = some true
  hm : PySem.W.mroIn K D (.type "object") = some true
def rIsX (K : PySem.W.Frag) : List V → Hp → VK → Prop := fun xs H Q => ∃ (a D : Addr) (c : V) (u : Value) (b : Bool), xs = [.ref a, c] ∧ ClsV c u ∧ (∃ d, H a = some (ExO a (.ref D) d) ∧ (d = none ∨ ∃ (x : Addr) (fs : List (Str × V)), d = some x ∧ H x = some (.xd fs))) ∧ ExcC K D ∧ PySem.W.kitOne K (.ref D) u = some b ∧ Q (.bl b) H
theorem call_isX : CallR X (.builtin "isinstance") (rIsX X.K) := fun pins s σ H xs us Q I r h => by
  obtain ⟨a, D, c, u, b, rfl, k, ⟨d, ho, hd⟩, C, e, q⟩ := h
  obtain ⟨u1, u2, rfl, r1, r2⟩ := vals2 r
  have e2 := k.eq r2
  subst e2
  cases (show u1 = Value.ref a from r1)
  obtain ⟨⟨⟨oc, od, oda, osl⟩, h1, h2, h3, vs, h4⟩, _⟩ := I.hok a _ ho
  dsimp only at h2 h3 h4
  subst h2 h3 h4
  have hcl : (PySem.W.clsIn X.K D).isSome = true := by
    obtain ⟨cd, hc, _⟩ := PySem.W.any_some C.hd
    rw [hc]; rfl
  rcases hd with rfl | ⟨x, fs, rfl, hx⟩
  · have at_ : PySem.W.InstAt s.heap a _ D none := ⟨h1, rfl, rfl, trivial⟩
    exact PySem.W.kia_one (PySem.W.kitx_exc hcl C.hg C.hk C.hs C.ha C.hn C.ht C.hm) I.kIn at_ e (fun z => nomatch z) fun tk => ⟨.bl b, H, I.tok tk, rfl, q⟩
  · have hx : ObjOk X.prog X.w H s.heap x (.xd fs) := I.hok x _ hx
    obtain ⟨mA, hns, _⟩ := hx
    obtain ⟨od, hod, _⟩ := lookIn_ns hns
    have at_ : PySem.W.InstAt s.heap a _ D (some od) := ⟨h1, rfl, rfl, hod⟩
    exact PySem.W.kia_one (PySem.W.kitx_exc hcl C.hg C.hk C.hs C.ha C.hn C.ht C.hm) I.kIn at_ e (fun z => nomatch z) fun tk => ⟨.bl b, H, I.tok tk, rfl, q⟩
def rIsU (K : PySem.W.Frag) : List V → Hp → VK → Prop := fun xs H Q => rIsi K xs H Q ∨ rIsX K xs H Q
theorem call_isU : CallR X (.builtin "isinstance") (rIsU X.K) := fun pins s σ H xs us Q I r h => by
  rcases h with h | h
  · exact call_isi pins s σ H xs us Q I r h
  · exact call_isX pins s σ H xs us Q I r h
/-- the classes of a law: own exceptions EX, others CL -/
structure Css (K : PySem.W.Frag) (EX CL : List Str) : Prop where
  e : ∀ c ∈ EX, ExcC K (He.ga K c)
  c : ∀ c ∈ CL, Cls K (He.ga K c) ∧ Ins K (He.ga K c)
  k : ∀ c ∈ EX ++ CL, ∀ C ∈ EX ++ CL, PySem.W.kitOne K (.ref (He.ga K c)) (.ref (He.ga K C)) = some (isb c C)
  b : ∀ C ∈ EX ++ CL, ∀ t ∈ ["NoneType", "bool", "int", "str", "tuple", "list", "dict"], PySem.W.kitOne K (.type t) (.ref (He.ga K C)) = some false
/-- the class of a value -/
def clsD (EX CL : List Str) (CN : Str) (μ : Mem) : D → Option Bool
  | .exc c _ _ => if EX.contains c then some (isb c CN) else none
  | .obj c _ => if CL.contains c then some (isb c CN) else none
  | .ref p => match μ p with
    | some (.obj c _) => if CL.contains c then some (isb c CN) else none
    | _ => none
  | .non => some false
  | .bl _ => some false
  | .int _ => some false
  | .str _ => some false
  | .tup _ => some false
  | .lst _ => some false
  | .dct _ => some false
  | _ => none
def dIsC (EX CL : List Str) (CN : Str) (de : DE) : DE := fun δ μ Q => de δ μ fun x δ1 μ1 => ∃ b, clsD EX CL CN μ1 x = some b ∧ Q (.bl b) δ1 μ1
theorem mem_of_contains {l : List Str} {c : Str} (h : l.contains c = true) : c ∈ l := by simpa using h
theorem exc_is {S : Hp} {μ : Mem} {H : Hp} (r : R3 K S μ H) {c : Str} {fs : List (Str × D)} {own : Bool} {v : V} (hv : Rep K S (.exc c fs own) v) : ∃ a d, v = .ref a ∧ H a = some (ExO a (.ref (He.ga K c)) d) ∧ (d = none ∨ ∃ (x : Addr) (gs : List (Str × V)), d = some x ∧ H x = some (.xd gs)) := by
  have at_ : ∀ {p : Addr} {u : HO}, S p = some u → notMet u → ¬ isDc u → H p = some u := fun {p u} h1 h2 h3 => by
    rcases r.ex.at h1 h2 with z | ⟨z, _⟩
    · exact z
    · exact (h3 z).elim
  cases own with
  | false =>
    obtain ⟨a, rfl, h1, _⟩ := hv
    exact ⟨a, none, rfl, at_ h1 trivial id, .inl rfl⟩
  | true =>
    obtain ⟨a, x, gs, rfl, h1, h2, _⟩ := hv
    exact ⟨a, some x, rfl, at_ h1 trivial id, .inr ⟨x, gs, rfl, at_ h2 trivial id⟩⟩
theorem sim_isC {EX CL : List Str} {CN : Str} (A : Css K EX CL) (hC : CN ∈ EX ++ CL) {S : Hp} {μ : Mem} {H : Hp} (r : R3 K S μ H) {d : D} {v : V} {b : Bool} (hv : Rep K S d v) (h : clsD EX CL CN μ d = some b) {Q : VK} (q : Q (.bl b) H) : rIsU K [v, .ref (He.ga K CN)] H Q := by
  have bi : ∀ t, tyD d = some t → t ∈ ["NoneType", "bool", "int", "str", "tuple", "list", "dict"] → b = false → rIsU K [v, .ref (He.ga K CN)] H Q := fun t h1 h2 h3 => .inl ⟨v, _, .type t, .ref _, b, rfl, .own _, tyx_of r.ex hv h1, by rw [h3]; exact A.b CN hC t h2, q⟩
  have ob : ∀ c fs, objOf μ d = some (c, fs) → CL.contains c = true → b = isb c CN → rIsU K [v, .ref (He.ga K CN)] H Q := fun c fs h1 h2 h3 => by
    obtain ⟨a, dx, gs, rfl, h4, h5⟩ := obj_is r hv h1
    obtain ⟨h6, h7⟩ := A.c c (mem_of_contains h2)
    exact .inl ⟨.ref a, _, .ref (He.ga K c), .ref _, b, rfl, .own _, .base (.ins h4 h6 h7.ha h7.hn h7.ht h7.hm), by rw [h3]; exact A.k c (List.mem_append_right _ (mem_of_contains h2)) CN hC, q⟩
  cases d with
  | exc c fs own =>
    have h : (if EX.contains c then some (isb c CN) else none) = some b := h
    by_cases hc : EX.contains c = true
    · rw [if_pos hc] at h
      cases h
      obtain ⟨a, d, rfl, h2, h3⟩ := exc_is r hv
      exact .inr ⟨a, He.ga K c, _, .ref _, _, rfl, .own _, ⟨d, h2, h3⟩, A.e c (mem_of_contains hc), A.k c (List.mem_append_left _ (mem_of_contains hc)) CN hC, q⟩
    · rw [if_neg hc] at h; cases h
  | obj c fs =>
    have h : (if CL.contains c then some (isb c CN) else none) = some b := h
    by_cases hc : CL.contains c = true
    · rw [if_pos hc] at h
      exact ob c fs rfl hc (Option.some.inj h).symm
    · rw [if_neg hc] at h; cases h
  | ref p =>
    unfold clsD at h
    dsimp only at h
    split at h
    · rename_i c fs hm
      by_cases hc : CL.contains c = true
      · rw [if_pos hc] at h
        exact ob c fs (by unfold objOf; dsimp only; rw [hm]) hc (Option.some.inj h).symm
      · rw [if_neg hc] at h; cases h
    · cases h
  | non => exact bi _ rfl (by decide) (Option.some.inj h).symm
  | bl _ => exact bi _ rfl (by decide) (Option.some.inj h).symm
  | int _ => exact bi _ rfl (by decide) (Option.some.inj h).symm
  | str _ => exact bi _ rfl (by decide) (Option.some.inj h).symm
  | tup _ => exact bi _ rfl (by decide) (Option.some.inj h).symm
  | lst _ => exact bi _ rfl (by decide) (Option.some.inj h).symm
  | dct _ => exact bi _ rfl (by decide) (Option.some.inj h).symm
  | _ => cases h
theorem d_isC {EX CL : List Str} {CN : Str} {e : Expr} {te : TE} {de : DE} {p p2 pos : Pos} (A : Css K EX CL) (hmC : X.mg CN = some (.ref (He.ga K CN))) (hm : X.mg "isinstance" = none) (he : PD K Z X e te de) (hC : (EX ++ CL).contains CN = true := by decide +kernel) (hg : Gl X "isinstance" := by rfl) (hgC : Gl X CN := by rfl) (hdb : (CN == ("__debug__" : Str)) = false := by decide) (hk : X.K = K := by rfl)
    (h1 : starEach [e, .Name CN p2] X.env = (false, eval e X.env) :: starEach [.Name CN p2] X.env := by rfl) (h2 : starEach [.Name CN p2] X.env = (false, eval (.Name CN p2) X.env) :: starEach [] X.env := by rfl) (hpl : (backTo pos (starEach [.Name CN p2] X.env)).any (·.1) = false := by rfl) :
    PD K Z X (.Call (.Name "isinstance" p) [e, .Name CN p2] [] pos) (tCB (rIsU K) (tCons te (tCons (tC (.ref (He.ga K CN))) tNil))) (dIsC EX CL CN de) := by
  subst hk
  refine ⟨pe_callB call_isU hg hm (by decide +kernel) (pa_cons he.p (pa_cons (pe_glob (v := .ref (He.ga X.K CN)) hgC hmC rfl hdb) pa_nil h2) h1) (by decide) (by decide) h1 hpl, fun B hB S μ H σ δ Q QD rl k q => ?_⟩
  refine he.s B hB S μ H σ δ _ _ rl (fun S1 μ1 H1 δ1 x dx e1 r1 hx q1 => ?_) q
  obtain ⟨b, hb, q1⟩ := q1
  exact sim_isC A (mem_of_contains hC) r1.r3 hx hb (k S1 μ1 H1 δ1 _ (.bl b) e1 r1 rfl q1)
end Dl
namespace Dl
open PySem PySem.Spec PyProof.Rows L2
variable {K : PySem.W.Frag}
/-! ### the classes -/
theorem insB_ok {D : Addr} (h : insB K D = true) : Ins K D := by
  obtain ⟨a, b⟩ := He.ba h
  obtain ⟨b, c⟩ := He.ba b
  obtain ⟨c, d⟩ := He.ba c
  exact ⟨He.eqO_ok a, He.eqO_ok b, of_decide_eq_true c, of_decide_eq_true d⟩
theorem excB_ok {D : Addr} (h : excB K D = true) : ExcC K D := by
  obtain ⟨a, b⟩ := He.ba h
  obtain ⟨b, c⟩ := He.ba b
  obtain ⟨c, d⟩ := He.ba c
  obtain ⟨d, e⟩ := He.ba d
  have i := insB_ok a
  exact ⟨He.eqO_ok b, He.eqO_ok c, of_decide_eq_true d, e, i.ha, i.hn, i.ht, i.hm⟩
theorem cssB_ok {EX CL : List Str} (h : cssB EX CL K = true) : Css K EX CL := by
  obtain ⟨a, b⟩ := He.ba h
  obtain ⟨b, c⟩ := He.ba b
  obtain ⟨c, d⟩ := He.ba c
  refine ⟨fun x hx => excB_ok (List.all_eq_true.mp a x hx), fun x hx => ?_, fun x hx y hy => of_decide_eq_true (List.all_eq_true.mp (List.all_eq_true.mp c x hx) y hy), fun x hx t ht => of_decide_eq_true (List.all_eq_true.mp (List.all_eq_true.mp d x hx) t ht)⟩
  obtain ⟨p, q⟩ := He.ba (List.all_eq_true.mp b x hx)
  exact ⟨He.cls_ok p, insB_ok q⟩
theorem ec_of {mg : Str → Option Value} {C : Str} (c : (He.Fa.exc C).ok K = true) (g : mg C = some (.ref (He.ga K C))) : Ec K mg C := by
  obtain ⟨h1, h2, h3, h4⟩ := He.exc_ok c
  exact ⟨h1, h2, h3, h4, g⟩
end Dl
namespace Dl
open PySem PySem.Spec PyProof.Rows L2
variable {X : Cx} {K : PySem.W.Frag} {Z : Bs}
/-! ### more built-ins -/
def rdInt : DC := fun xs μ Q => (∃ i, xs = [.int i] ∧ Q (.int i) μ) ∨ ∃ b, xs = [.bl b] ∧ Q (.int (if b then 1 else 0)) μ
theorem c_int : PDC K X (.type "int") (fun xs H Q => (∃ i, xs = [.int i] ∧ Q (.int i) H) ∨ ∃ k, xs = [.bl k] ∧ Q (.int (if k then 1 else 0)) H) rdInt :=
  ⟨call_int1, fun S μ H xs ds Q QD r hx k q => by
    rcases q with ⟨i, rfl, q⟩ | ⟨b, rfl, q⟩
    · obtain ⟨v, rfl, hv⟩ := RepL.one' hx
      have hv : v = .int i := hv
      rw [hv]
      exact .inl ⟨i, rfl, k S μ H _ (.int i) Grow.refl r rfl q⟩
    · obtain ⟨v, rfl, hv⟩ := RepL.one' hx
      have hv : v = .bl b := hv
      rw [hv]
      exact .inr ⟨b, rfl, k S μ H _ (.int _) Grow.refl r rfl q⟩⟩
def rdAbs : DC := fun xs μ Q => ∃ i, xs = [.int i] ∧ Q (.int (if i < 0 then -i else i)) μ
/-! ### a, b = a list -/
def gdLst (n : Nat) (t : DGs) : DG := fun d δ μ Q => ∃ l, d = .lst l ∧ l.length = n ∧ t l δ μ Q
/-! ### a, b = x, y -/
def dPar (i j : Nat) (da : DA) : DS := fun DD δ μ => da δ μ fun ds δ1 μ1 => ∃ x y, ds = [x, y] ∧ DD.nx ((δ1.set i (.val x)).set j (.val y)) μ1
/-- .. the first one a list that is then changed -/
def dParF (i j : Nat) (df : DF) (db : DE) : DS := fun DD δ μ => df δ μ fun m δ1 μ1 => db δ1 μ1 fun y δ2 μ2 => DD.nx ((δ2.set i (.own m)).set j (.val y)) μ2
def dPar3 (i j l : Nat) (da : DA) : DS := fun DD δ μ => da δ μ fun ds δ1 μ1 => ∃ x y z, ds = [x, y, z] ∧ DD.nx (((δ1.set i (.val x)).set j (.val y)).set l (.val z)) μ1
end Dl
namespace Dl
open PySem PySem.Spec PyProof.Rows L2
variable {X : Cx} {K : PySem.W.Frag} {Z : Bs}
/-! ### lists of whole numbers -/
def lstOf (μ : Mem) : D → Option (List D)
  | .lst l => some l
  | .scr l => some l
  | .ref p => match μ p with
    | some (.lst l) => some l
    | _ => none
  | _ => none
theorem lst_is {S : Hp} {μ : Mem} {H : Hp} (r : R3 K S μ H) {d : D} {v : V} {l : List D} (h : Rep K S d v) (e : lstOf μ d = some l) : ∃ a vs, v = .ref a ∧ SqL K H a vs ∧ RepL K S l vs := by
  cases d with
  | lst l' =>
    cases (show some _ = some _ from e)
    obtain ⟨a, vs, rfl, h1, h2⟩ := h
    exact ⟨a, vs, rfl, SqL.of (exr_lst r.ex h1), h2⟩
  | scr l' =>
    cases (show some _ = some _ from e)
    obtain ⟨a, vs, rfl, h1, h2⟩ := h
    exact ⟨a, vs, rfl, exr_l r.ex h1, h2⟩
  | ref p =>
    unfold lstOf at e
    dsimp only at e
    split at e
    · cases e
      rename_i hm
      have h : v = .ref p := h
      obtain ⟨_, o, h1, vs, rfl, h2⟩ := r.mu p _ hm
      exact ⟨p, vs, h, SqL.of h1, h2⟩
    · cases e
  | _ => cases (show none = some _ from e)
/-! ### a list of the memory is walked -/
def diCell (de : DE) : DI := fun δ μ Q => de δ μ fun d δ1 μ1 => ∃ p l, d = .ref p ∧ μ1 p = some (.lst l) ∧ Q l (fun μ => μ p = some (.lst l)) δ1 μ1
theorem wk_cell {S : Hp} {p : Addr} {l : List D} : Wk K S (Itl K p) l (fun μ => μ p = some (.lst l)) where
  goes := fun S' μ H i e r g hi => by
    obtain ⟨_, o, h1, vs, rfl, h2⟩ := r.mu p _ g
    have hi' : i < vs.length := by rw [RepL.length h2]; exact hi
    exact ⟨vs, vs[i], SqL.of h1, by simp [hi']⟩
  stops := fun S' μ H e r g => by
    obtain ⟨_, o, h1, vs, rfl, h2⟩ := r.mu p _ g
    exact ⟨vs, SqL.of h1, by rw [RepL.length h2]; exact Nat.le_refl _⟩
  yields := fun S' μ H i d x H' e r g hd y => by
    obtain ⟨_, o, h1, vs, rfl, h2⟩ := r.mu p _ g
    obtain ⟨rfl, y⟩ := y
    have y := y vs (SqL.of h1)
    obtain ⟨v, e1, hv⟩ := RepL.get h2 hd
    rw [e1] at y
    cases y
    exact ⟨S', Grow.refl, r, hv⟩
/-- a list, of the memory or not -/
def WkL (d : D) (μ : Mem) (R : List D → (Mem → Prop) → Prop) : Prop := (∃ l, (d = .lst l ∨ d = .scr l) ∧ R l (fun _ => True)) ∨ (∃ p l, d = .ref p ∧ μ p = some (.lst l) ∧ R l (fun μ => μ p = some (.lst l)))
def diAny (de : DE) : DI := fun δ μ Q => de δ μ fun d δ1 μ1 => WkL d μ1 fun l G => Q l G δ1 μ1
theorem i_any {tg e : Expr} {te : TE} {de : DE} (h : PD K Z X e te de) (hk : X.K = K := by rfl) : PDI K Z X tg e (iList K te) (diAny de) := by
  subst hk
  exact ⟨pi_list h.p, fun B hB S μ H σ δ Q QD rl k q => by
    refine h.s B hB S μ H σ δ _ _ rl (fun S1 μ1 H1 δ1 v d e1 r1 hv q1 => ?_) q
    rcases q1 with ⟨l, hd, q1⟩ | ⟨p, l, rfl, hm, q1⟩
    · obtain ⟨a, vs, rfl, hl, h2⟩ : ∃ a vs, v = .ref a ∧ SqL X.K S1 a vs ∧ RepL X.K S1 l vs := by
        rcases hd with rfl | rfl
        · obtain ⟨a, vs, e, h1, h2⟩ := hv
          exact ⟨a, vs, e, SqL.of h1, h2⟩
        · exact hv
      exact ⟨a, rfl, ⟨vs, exr_l r1.r3.ex hl⟩, k S1 μ1 H1 δ1 _ l _ e1 r1 (wk_list hl h2) q1⟩
    · have hv : v = .ref p := hv
      subst hv
      obtain ⟨_, o, h1, vs, rfl, h2⟩ := r1.r3.mu p _ hm
      exact ⟨p, rfl, ⟨vs, SqL.of h1⟩, k S1 μ1 H1 δ1 _ l _ e1 r1 wk_cell q1⟩⟩
def rMaxL (K : PySem.W.Frag) : List V → Hp → VK → Prop := fun xs H Q => ∃ (a : Addr) (ns : List Int), xs = [.ref a] ∧ SqL K H a (ns.map V.int) ∧ 0 < ns.length ∧ ∀ M, M ∈ ns → (∀ b ∈ ns, b ≤ M) → Q (.int M) H
def rMinL (K : PySem.W.Frag) : List V → Hp → VK → Prop := fun xs H Q => ∃ (a : Addr) (ns : List Int), xs = [.ref a] ∧ SqL K H a (ns.map V.int) ∧ 0 < ns.length ∧ ∀ M, M ∈ ns → (∀ b ∈ ns, M ≤ b) → Q (.int M) H
theorem call_maxL (hc : X.calm = true) : CallR X (.builtin "max") (rMaxL X.K) := fun pins s σ H vs us Q I r h => by
  obtain ⟨a, ns, rfl, hs, hne, q⟩ := h
  obtain ⟨its, rv, hl, hz⟩ := I.list hs
  rw [Vals.ref1 r]
  have hi := rv.ints
  obtain ⟨xs, e⟩ := hi.allInts.items
  have hns : ns = xs.toList.map (·.1) := by rw [← hi.numsOf, ← nums_intItems, ← e]
  have hsz : 0 < xs.size := by
    rw [hns, List.length_map, Array.length_toList] at hne
    exact hne
  have hl' := hl.isList
  rw [e] at hl'
  refine max_intList (I.ok.hd hc) hl' hsz fun v h' tk hv hk => ?_
  obtain ⟨t, rfl⟩ := intItems_at hv
  obtain ⟨h1, h2⟩ := argBest_gt (numAt xs) (xs.size - 1)
  refine ⟨.int _, H, I.kept (t' := tk) hk, ⟨t, rfl⟩, q _ ?_ fun b hb => ?_⟩
  · rw [hns, numAt_eq]
    exact getD_mem (by rw [List.length_map, Array.length_toList]; omega)
  · rw [hns] at hb
    obtain ⟨j, hj, rfl⟩ := mem_getD hb
    rw [List.length_map, Array.length_toList] at hj
    rw [← numAt_eq]
    exact h2 j (by omega)
theorem call_minL (hc : X.calm = true) : CallR X (.builtin "min") (rMinL X.K) := fun pins s σ H vs us Q I r h => by
  obtain ⟨a, ns, rfl, hs, hne, q⟩ := h
  obtain ⟨its, rv, hl, hz⟩ := I.list hs
  rw [Vals.ref1 r]
  have hi := rv.ints
  obtain ⟨xs, e⟩ := hi.allInts.items
  have hns : ns = xs.toList.map (·.1) := by rw [← hi.numsOf, ← nums_intItems, ← e]
  have hsz : 0 < xs.size := by
    rw [hns, List.length_map, Array.length_toList] at hne
    exact hne
  have hl' := hl.isList
  rw [e] at hl'
  refine min_intList (I.ok.hd hc) hl' hsz fun v h' tk hv hk => ?_
  obtain ⟨t, rfl⟩ := intItems_at hv
  obtain ⟨h1, h2⟩ := argBest_lt (numAt xs) (xs.size - 1)
  refine ⟨.int _, H, I.kept (t' := tk) hk, ⟨t, rfl⟩, q _ ?_ fun b hb => ?_⟩
  · rw [hns, numAt_eq]
    exact getD_mem (by rw [List.length_map, Array.length_toList]; omega)
  · rw [hns] at hb
    obtain ⟨j, hj, rfl⟩ := mem_getD hb
    rw [List.length_map, Array.length_toList] at hj
    rw [← numAt_eq]
    exact h2 j (by omega)
def rdMaxL : DC := fun xs μ Q => ∃ (d : D) (ns : List Int), xs = [d] ∧ lstOf μ d = some (ns.map .int) ∧ 0 < ns.length ∧ ∀ M, M ∈ ns → (∀ b ∈ ns, b ≤ M) → Q (.int M) μ
def rdMinL : DC := fun xs μ Q => ∃ (d : D) (ns : List Int), xs = [d] ∧ lstOf μ d = some (ns.map .int) ∧ 0 < ns.length ∧ ∀ M, M ∈ ns → (∀ b ∈ ns, M ≤ b) → Q (.int M) μ
theorem c_maxL (hc : X.calm = true) (hk : X.K = K := by rfl) : PDC K X (.builtin "max") (rMaxL K) rdMaxL := by
  subst hk
  exact ⟨call_maxL hc, fun S μ H xs ds Q QD r hx k q => by
    obtain ⟨d, ns, rfl, hl, hn, q⟩ := q
    obtain ⟨v, rfl, hv⟩ := RepL.one' hx
    obtain ⟨a, vs, rfl, h1, h2⟩ := lst_is r hv hl
    rw [RepL.int h2] at h1
    exact ⟨a, ns, rfl, h1, hn, fun M m1 m2 => k S μ H _ (.int M) Grow.refl r rfl (q M m1 m2)⟩⟩
theorem c_minL (hc : X.calm = true) (hk : X.K = K := by rfl) : PDC K X (.builtin "min") (rMinL K) rdMinL := by
  subst hk
  exact ⟨call_minL hc, fun S μ H xs ds Q QD r hx k q => by
    obtain ⟨d, ns, rfl, hl, hn, q⟩ := q
    obtain ⟨v, rfl, hv⟩ := RepL.one' hx
    obtain ⟨a, vs, rfl, h1, h2⟩ := lst_is r hv hl
    rw [RepL.int h2] at h1
    exact ⟨a, ns, rfl, h1, hn, fun M m1 m2 => k S μ H _ (.int M) Grow.refl r rfl (q M m1 m2)⟩⟩
end Dl
namespace Dl
open PySem PySem.Spec PyProof.Rows L2
variable {X : Cx} {K : PySem.W.Frag} {Z : Bs}
/-! ### dicts of the memory, keys whole numbers or texts -/
def keyD : D → Option Key
  | .int i => some (.inl i)
  | .str z => some (.inr z)
  | _ => none
theorem key_v {S : Hp} {d : D} {v : V} {k : Key} (h : Rep K S d v) (e : keyD d = some k) : v = kV k := by
  cases d with
  | int i => cases (show some _ = some _ from e); exact h
  | str i => cases (show some _ = some _ from e); exact h
  | _ => cases e
def dicOf (μ : Mem) : D → Option (List (Key × D))
  | .dct l => some l
  | .ref p => match μ p with
    | some (.dct l) => some l
    | some (.lck _ _ l) => some l
    | _ => none
  | _ => none
theorem dic_is {S : Hp} {μ : Mem} {H : Hp} (r : R3 K S μ H) {d : D} {v : V} {l : List (Key × D)} (h : Rep K S d v) (e : dicOf μ d = some l) : ∃ a vs, v = .ref a ∧ Rd H a (.dK vs) ∧ RepK K S l vs := by
  cases d with
  | dct l' =>
    cases (show some _ = some _ from e)
    obtain ⟨a, vs, rfl, h1, h2⟩ := h
    exact ⟨a, vs, rfl, exr_rd r.ex h1, h2⟩
  | ref p =>
    unfold dicOf at e
    dsimp only at e
    split at e
    · cases e
      rename_i hm
      have h : v = .ref p := h
      obtain ⟨_, o, h1, vs, rfl, h2⟩ := r.mu p _ hm
      exact ⟨p, vs, h, .inl h1, h2⟩
    · cases e
      rename_i od kvs hm
      have h : v = .ref p := h
      obtain ⟨_, o, h1, rfl, h2⟩ := r.mu p _ hm
      exact ⟨p, kvs, h, .inr ⟨od, h1⟩, h2⟩
    · cases e
  | _ => cases (show none = some _ from e)
def valD (l : List (Key × D)) (k : Key) : Option D := (l.find? fun kv => decide (kv.1 = k)).map (·.2)
def putKD (l : List (Key × D)) (k : Key) (d : D) : List (Key × D) := if (l.any fun kv => decide (kv.1 = k)) = true then l.map (fun kv => if kv.1 = k then (kv.1, d) else kv) else l ++ [(k, d)]
theorem RepK.val {S : Hp} {k : Key} : ∀ {l : List (Key × D)} {vs : List (Key × V)}, RepK K S l vs → (∀ d, valD l k = some d → ∃ v, valV vs k = some v ∧ Rep K S d v) ∧ (valD l k = none → valV vs k = none)
  | [], vs, h => by
    have h : vs = [] := h
    subst h
    exact ⟨(fun d e => nomatch e), fun _ => rfl⟩
  | (j, d) :: l, vs, h => by
    obtain ⟨v, r, rfl, h1, h2⟩ := h
    have ih := RepK.val (k := k) h2
    by_cases e : j = k
    · rw [valV_pos (p := (j, v)) e]
      have e2 : valD ((j, d) :: l) k = some d := by simp [valD, List.find?_cons, e]
      rw [e2]
      refine ⟨fun d' z => ?_, fun z => nomatch z⟩
      cases z
      exact ⟨v, rfl, h1⟩
    · rw [valV_neg (p := (j, v)) e]
      have e2 : valD ((j, d) :: l) k = valD l k := by simp [valD, List.find?_cons, e]
      rw [e2]
      exact ih
theorem RepK.any {S : Hp} {k : Key} : ∀ {l : List (Key × D)} {vs : List (Key × V)}, RepK K S l vs → (l.any fun kv => decide (kv.1 = k)) = (vs.any fun kv => decide (kv.1 = k))
  | [], vs, h => by have h : vs = [] := h; subst h; rfl
  | (j, d) :: l, vs, h => by
    obtain ⟨v, r, rfl, h1, h2⟩ := h
    rw [List.any_cons, List.any_cons, RepK.any h2]
theorem RepK.map {S : Hp} {k : Key} {d : D} {v : V} (hd : Rep K S d v) : ∀ {l : List (Key × D)} {vs : List (Key × V)}, RepK K S l vs → RepK K S (l.map fun kv => if kv.1 = k then (kv.1, d) else kv) (vs.map fun kv => if kv.1 = k then (kv.1, v) else kv)
  | [], vs, h => by have h : vs = [] := h; subst h; rfl
  | (j, e) :: l, vs, h => by
    obtain ⟨u, r, rfl, h1, h2⟩ := h
    rw [List.map_cons, List.map_cons]
    by_cases hj : j = k
    · rw [if_pos hj, if_pos hj]; exact ⟨v, _, rfl, hd, RepK.map hd h2⟩
    · rw [if_neg hj, if_neg hj]; exact ⟨u, _, rfl, h1, RepK.map hd h2⟩
/-- {} -/
def dDicM : DE := fun δ μ Q => ∀ p, μ p = none → Q (.ref p) δ (updM μ p (.dct []))
/-- d[k] -/
def dGetK (da db : DE) : DE := fun δ μ Q => da δ μ fun x δ1 μ1 => db δ1 μ1 fun y δ2 μ2 => ∃ l k d, dicOf μ2 x = some l ∧ keyD y = some k ∧ valD l k = some d ∧ Q d δ2 μ2
/-- d[k] = v -/
def dPutK (da db de : DE) : DS := fun DD δ μ => de δ μ fun d δ1 μ1 => da δ1 μ1 fun x δ2 μ2 => db δ2 μ2 fun y δ3 μ3 => ∃ p l k, x = .ref p ∧ μ3 p = some (.dct l) ∧ keyD y = some k ∧ l.length < sizeLine ∧ DD.nx δ3 (updM μ3 p (.dct (putKD l k d)))
end Dl
namespace Dl
open PySem PySem.Spec PyProof.Rows L2
variable {X : Cx} {K : PySem.W.Frag} {Z : Bs}
/-! ### the draw: a list of the script and a number that is nobody's business -/
def dDrw1 (da : DE) : DE := fun δ μ Q => da δ μ fun x δ1 μ1 => ∃ ns, x = .drw ns ∧ ∀ n : Int, 0 ≤ n → Q (.int n) δ1 μ1
def dDrw0 (da : DE) : DE := fun δ μ Q => da δ μ fun x δ1 μ1 => ∃ ns, x = .drw ns ∧ (ns.length ≤ 63 → Q (.scr (ns.map .int)) δ1 μ1)
theorem d_drw1 {a : Expr} {j} {c pos : Pos} {ta : TE} {da : DE} (ha : PD K Z X a ta da) (hs : PlainIx (.Constant (.int 1) j c) := by exact fun _ _ => rfl) (hk : X.K = K := by rfl) : PD K Z X (.Subscript a (.Constant (.int 1) j c) pos) (tOp (rIx K) ta (tC (.int 1))) (dDrw1 da) := by
  subst hk
  exact ⟨pe_ix ix_seq ha.p pe_int hs, fun B hB S μ H σ δ Q QD rl k q => by
    refine ha.s B hB S μ H σ δ _ _ rl (fun S1 μ1 H1 δ1 x dx e1 r1 hx q1 => ?_) q
    obtain ⟨ns, rfl, q1⟩ := q1
    obtain ⟨p, sa, rfl, h1, h2, h3⟩ := hx
    obtain ⟨n, h4, h5⟩ := r1.r3.ex.drw h1
    exact .inl ⟨p, _, 1, .int n, rfl, rfl, SqL.of h4, rfl, k S1 μ1 H1 δ1 _ (.int n) e1 r1 rfl (q1 n h5)⟩⟩
theorem d_drw0 {a : Expr} {j} {c pos : Pos} {ta : TE} {da : DE} (ha : PD K Z X a ta da) (hs : PlainIx (.Constant (.int 0) j c) := by exact fun _ _ => rfl) (hk : X.K = K := by rfl) : PD K Z X (.Subscript a (.Constant (.int 0) j c) pos) (tOp (rIx K) ta (tC (.int 0))) (dDrw0 da) := by
  subst hk
  exact ⟨pe_ix ix_seq ha.p pe_int hs, fun B hB S μ H σ δ Q QD rl k q => by
    refine ha.s B hB S μ H σ δ _ _ rl (fun S1 μ1 H1 δ1 x dx e1 r1 hx q1 => ?_) q
    obtain ⟨ns, rfl, q1⟩ := q1
    obtain ⟨p, sa, rfl, h1, h2, h3⟩ := hx
    obtain ⟨n, h4, h5⟩ := r1.r3.ex.drw h1
    exact .inl ⟨p, _, 0, .ref sa, rfl, rfl, SqL.of h4, rfl, k S1 μ1 H1 δ1 _ (.scr (ns.map .int)) e1 r1 ⟨sa, _, rfl, h2, RepL.ints⟩ (q1 h3)⟩⟩
def dSetDrw (da de : DE) : DS := fun DD δ μ => de δ μ fun d δ1 μ1 => da δ1 μ1 fun x δ2 μ2 => ∃ ns m, x = .drw ns ∧ d = .int m ∧ 0 ≤ m ∧ DD.nx δ2 μ2
theorem s_setDrw {o e : Expr} {j} {c pos p2 : Pos} {ta te : TE} {da de : DE} (ho : PD K Z X o ta da) (he : PD K Z X e te de)
    (ha : ∀ v, assign (.Subscript o (.Constant (.int 1) j c) p2) X.env v = (do
      let ov ← holding [v] (eval o X.env)
      let iv ← holding [v, ov] (eval (.Constant (.int 1) j c) X.env)
      standAt p2
      holding [v, ov, iv] (setItem ov iv v)
      release [v, ov, iv] []) := by intro _; rfl) (hs : swapsWithSole [.Subscript o (.Constant (.int 1) j c) p2] e pos.line X.env = pure false := by rfl) (hw : swappedStores [.Subscript o (.Constant (.int 1) j c) p2] e X.env = pure none := by rfl)
    (h1 : (assignEach [.Subscript o (.Constant (.int 1) j c) p2] X.env).map (·.2) = [assign (.Subscript o (.Constant (.int 1) j c) p2) X.env] := by rfl) : PDS K Z X (.Assign [.Subscript o (.Constant (.int 1) j c) p2] e pos) (tAsg te (gSub ta (tC (.int 1)) rSetL)) (dSetDrw da de) :=
  ⟨ps_asg he.p (pg_sub ho.p pe_int set_list ha) hs hw h1, fun B hB S μ H σ δ E DD rl lf q => by
    refine he.s B hB S μ H σ δ _ _ rl (fun S1 μ1 H1 δ1 v d e1 r1 hv q1 => ?_) q
    refine ho.s B hB S1 μ1 H1 σ δ1 _ _ r1 (fun S2 μ2 H2 δ2 x dx e2 r2 hx q2 => ?_) q1
    obtain ⟨ns, m, rfl, rfl, hm, q2⟩ := q2
    obtain ⟨p, sa, rfl, h1, h2, h3⟩ := hx
    obtain ⟨n, h4, h5⟩ := r2.r3.ex.drw h1
    have hv : v = .int m := hv
    subst hv
    obtain ⟨r3, g⟩ := r2.r3.drwSet h1 hm
    exact ⟨p, _, 1, 1, rfl, rfl, h4, rfl, lf.nx S2 μ2 _ σ δ2 (r2.grow g r3) q2⟩⟩
def dDrwNew (da : DA) : DE := fun δ μ Q => da δ μ fun xs δ1 μ1 => ∃ x ns, xs = [x, .int 0] ∧ (x = .scr (ns.map .int) ∨ x = .lst (ns.map .int)) ∧ ns.length ≤ 63 ∧ Q (.drw ns) δ1 μ1
theorem d_drwNew {es : List Expr} {pos} {ta : TA} {da : DA} (h : PDA K Z X es ta da) : PD K Z X (.List es pos) (tLst ta) (dDrwNew da) := ⟨pe_lst h.p, fun B hB S μ H σ δ Q QD rl k q => by
  refine h.s B hB S μ H σ δ _ _ rl (fun S1 μ1 H1 δ1 xs ds e1 r1 hx q1 => ?_) q
  obtain ⟨x, ns, rfl, hn, hl, q1⟩ := q1
  obtain ⟨v, w, rfl, h1, h2⟩ := RepL.two' hx
  have h2 : w = .int 0 := h2
  subst h2
  obtain ⟨sa, rfl, h3⟩ : ∃ sa, v = .ref sa ∧ SqL K S1 sa (ns.map V.int) := by
    rcases hn with rfl | rfl
    · obtain ⟨a, vs, rfl, h3, h4⟩ := h1
      rw [RepL.int h4] at h3
      exact ⟨a, rfl, h3⟩
    · obtain ⟨a, vs, rfl, h3, h4⟩ := h1
      rw [RepL.int h4] at h3
      exact ⟨a, rfl, SqL.of h3⟩
  refine ⟨(by decide : (2 : Nat) ≤ sizeLine), fun p hp => ?_⟩
  obtain ⟨r2, g⟩ := r1.r3.drwNew (sa := sa) hp
  exact k _ μ1 _ δ1 _ (.drw ns) (e1.trans g.ex) (r1.grow g r2) ⟨p, sa, rfl, upd_same, ex_l g.ex h3, hl⟩ q1⟩
end Dl
namespace Dl
open PySem PySem.Spec PyProof.Rows L2
variable {X : Cx} {K : PySem.W.Frag} {Z : Bs}
theorem rm1 {k : Nat} {A : Around} (r : Room k A) : A.units + 1 < cLine := by have := r.un; omega
/-! ### repr of data -/
/-- what repr tells, where it is told -/
def shownD (x : D) : Str := match pd x with
  | some p => p.shown
  | none => ""
def okR (x : D) : Prop := ∃ p, pd x = some p ∧ p.showable = true ∧ p.depth ≤ 64 ∧ p.shown.length ≤ sizeLine
def isSeqD : D → Bool
  | .lst _ => true
  | .scr _ => true
  | .tup _ => true
  | _ => false
def rdRepr : DC := fun xs μ Q => ∃ x, xs = [x] ∧ isSeqD x = true ∧ okR x ∧ Q (.str (shownD x)) μ
/-! what may be shown -/
def okN (n m : Nat) (x : D) : Prop := ∃ p, pd x = some p ∧ p.showable = true ∧ p.depth ≤ m ∧ p.shown.length ≤ n
def okNs (n m : Nat) (l : List D) : Prop := ∃ ps, pds l = some ps ∧ PyData.showableAll ps = true ∧ PyData.depthAll ps ≤ m ∧ ((PyData.shownAll ps).map (·.length)).sum + 2 * (PyData.shownAll ps).length ≤ n
theorem okN.ok {n m : Nat} {x : D} (h : okN n m x) (hm : m ≤ 64) (hn : n ≤ 16777216) : okR x := by
  obtain ⟨p, h1, h2, h3, h4⟩ := h
  exact ⟨p, h1, h2, by omega, Nat.le_trans h4 hn⟩
theorem okN.mono {n m n' m' : Nat} {x : D} (h : okN n m x) (hn : n ≤ n') (hm : m ≤ m') : okN n' m' x := by
  obtain ⟨p, h1, h2, h3, h4⟩ := h
  exact ⟨p, h1, h2, by omega, by omega⟩
theorem okNs.mono {n m n' m' : Nat} {x : List D} (h : okNs n m x) (hn : n ≤ n') (hm : m ≤ m') : okNs n' m' x := by
  obtain ⟨p, h1, h2, h3, h4⟩ := h
  exact ⟨p, h1, h2, by omega, by omega⟩
end Dl
namespace Dl
open PySem PySem.Spec PyProof.Rows L2
variable {X : Cx} {K : PySem.W.Frag} {Z : Bs}
/-! ### methods called with names -/
/-- what stands behind the arguments by place: one by its name (true), or a default (false) -/
def pick {α : Type} (z : α) : List (Bool × Nat) → List α → List α → List α
  | [], _, _ => []
  | (true, i) :: r, ws, ds => ws.getD i z :: pick z r ws ds
  | (false, i) :: r, ws, ds => ds.getD i z :: pick z r ws ds
theorem RepL.getD {S : Hp} {ds : List D} {vs : List V} (h : RepL K S ds vs) (i : Nat) : Rep K S (ds.getD i .non) (vs.getD i .non) := by
  have e := RepL.length h
  cases q : ds[i]? with
  | none =>
    have hi : ds.length ≤ i := List.getElem?_eq_none_iff.mp q
    rw [List.getD_eq_getElem?_getD, List.getD_eq_getElem?_getD, q, List.getElem?_eq_none (by omega)]
    rfl
  | some d =>
    obtain ⟨v, e2, hv⟩ := RepL.get h q
    rw [List.getD_eq_getElem?_getD, List.getD_eq_getElem?_getD, q, e2]
    exact hv
structure PDK (K : PySem.W.Frag) (Z : Bs) (X : Cx) (e : List Keyword) (te : TA) (de : DA) : Prop where
  p : PK X e te
  s : SimA K Z te de
theorem k_nil : PDK K Z X [] tNil dNil := ⟨pk_nil, (a_nil (X := X)).s⟩
theorem k_cons {nm : Option Str} {e : Expr} {kp : Pos} {kws : List Keyword} {te : TE} {ta : TA} {de : DE} {da : DA} (h : PD K Z X e te de) (hr : PDK K Z X kws ta da) : PDK K Z X (⟨nm, e, kp⟩ :: kws) (tCons te ta) (dCons de da) :=
  ⟨pk_cons h.p hr.p, fun B hB S μ H σ δ Q QD rl k q => by
    refine h.s B hB S μ H σ δ _ _ rl (fun S1 μ1 H1 δ1 x dx e1 r1 hx q1 => ?_) q
    refine hr.s B hB S1 μ1 H1 σ δ1 _ _ r1 (fun S2 μ2 H2 δ2 xs ds e2 r2 h2 q2 => ?_) q1
    exact k S2 μ2 H2 δ2 _ (dx :: ds) (e1.trans e2) r2 ⟨x, xs, rfl, Rep.mono e2 _ _ hx, h2⟩ q2⟩
def dMethK (C m : Str) (n l : Nat) (pk : List (Bool × Nat)) (dsp : DSp) (dds : List D) (XD : DXW) (do_ : DE) (da dk : DA) : DE := fun δ μ Q => do_ δ μ fun x δ1 μ1 => ∃ fs, objOf μ1 x = some (C, fs) ∧ fs.lookup m = none ∧ da δ1 μ1 fun ds δ2 μ2 => dk δ2 μ2 fun es δ3 μ3 => (x :: ds).length = n ∧ es.length = l ∧ dsp ((x :: ds) ++ pick .non pk es dds) μ3 (fun d μ4 => Q d δ3 μ4) (fun c fs μ4 => XD c fs δ3 μ4)
end Dl
namespace Dl
open PySem PySem.Spec PyProof.Rows L2
variable {X : Cx} {K : PySem.W.Frag} {Z : Bs}
/-! ### len of an own object -/
def dLenM (C : Str) (dsp : DSp) (XD : DXW) (da : DE) : DE := fun δ μ Q => da δ μ fun x δ1 μ1 => ∃ fs, objOf μ1 x = some (C, fs) ∧ dsp [x] μ1 (fun d μ2 => ∃ n : Int, d = .int n ∧ 0 ≤ n ∧ n < 2 ^ 63 ∧ Q (.int n) δ1 μ2) (fun c fs μ2 => XD c fs δ1 μ2)
end Dl
namespace Dl
open PySem PySem.Spec PyProof.Rows L2
variable {X : Cx} {K : PySem.W.Frag} {Z : Bs}
/-! ### while -/
def dWhile (dc : DT) (db : DS) : DS := fun DD δ μ => ∃ W : Nat → Ss → Mem → Prop, (∃ m, Wn (W m) δ μ) ∧ ∀ m δ μ, W m δ μ → dc δ μ fun b δ1 μ1 =>
  if b = true then db { DD with nx := fun δ' μ' => ∃ m', m' < m ∧ Wn (W m') δ' μ', ct := fun δ' μ' => ∃ m', m' < m ∧ Wn (W m') δ' μ', bk := DD.nx } δ1 μ1 else DD.nx δ1 μ1
theorem s_while {c : Expr} {body : List Stmt} {pos : Pos} {tc : TT} {tb : TS} {dc : DT} {db : DS} (hp : PassesOwn (model X.prog X.w) X.A X.env X.xe) (hc : PDT K Z X c tc dc) (hb : PDSs K Z X body tb db) : PDS K Z X (.While c body [] pos) (tWhile tc tb) (dWhile dc db) :=
  ⟨ps_while hp hc.p hb.p, fun B hB S μ H σ δ E DD rl lf q => by
    obtain ⟨W, ⟨m0, δa, μa, w0, la, ma⟩, turn⟩ := q
    refine ⟨fun m σ H => ∃ S μ δ, Rel K B S μ H σ δ ∧ W m δ μ, ⟨m0, S, μa, δa, (rl.le la).leM ma, w0⟩, ?_⟩
    rintro m σ1 H1 ⟨S1, μ1, δ1, r1, w1⟩
    refine hc.s B hB S1 μ1 H1 σ1 δ1 _ _ r1 (fun S2 μ2 H2 δ2 b e2 r2 q2 => ?_) (turn m δ1 μ1 w1)
    cases b with
    | false =>
      rw [if_neg Bool.false_ne_true] at q2 ⊢
      exact lf.nx S2 μ2 H2 σ1 δ2 r2 q2
    | true =>
      rw [if_pos rfl] at q2 ⊢
      refine ⟨fun σ' H' => ∃ m', m' < m ∧ ∃ S μ δ, Rel K B S μ H' σ' δ ∧ W m' δ μ, fun σ' H' h => h, ?_⟩
      refine hb.s B hB S2 μ2 H2 σ1 δ2 _ { DD with nx := fun δ' μ' => ∃ m', m' < m ∧ Wn (W m') δ' μ', ct := fun δ' μ' => ∃ m', m' < m ∧ Wn (W m') δ' μ', bk := DD.nx } r2 ⟨fun S5 μ5 H5 σ5 δ5 r5 ⟨m', hm, δ0, μ0, q5, l5, m5⟩ => ⟨m', hm, S5, μ0, δ0, (r5.le l5).leM m5, q5⟩, lf.rt, lf.nx, fun S5 μ5 H5 σ5 δ5 r5 ⟨m', hm, δ0, μ0, q5, l5, m5⟩ => ⟨m', hm, S5, μ0, δ0, (r5.le l5).leM m5, q5⟩⟩ q2⟩
/-! ### methods that change a list -/
abbrev LM := List D → List D → Mem → (D → List D → Prop) → Prop
def SimLM (K : PySem.W.Frag) (r : V → List V → Hp → VK → Prop) (lm : LM) : Prop := ∀ (S : Hp) (μ : Mem) (H : Hp) (p : Addr) (vs : List V) (l : List D) (xs : List V) (ds : List D) (Q : VK) (R : D → List D → Prop), R3 K S μ H → H p = some (.lst vs) → RepL K S l vs → RepL K S ds xs →
  (∀ v vs' d l', Rep K S d v → RepL K S l' vs' → R d l' → Q v (upd H p (.lst vs'))) → lm ds l μ R → r (.ref p) xs H Q
def dLMO (i : Nat) (lm : LM) (da : DA) : DE := fun δ μ Q => (∃ l, δ[i]? = some (.own (.lst l))) ∧ da δ μ fun ds δ1 μ1 => ∃ l, δ1[i]? = some (.own (.lst l)) ∧ lm ds l μ1 fun d l' => Q d (δ1.set i (.own (.lst l'))) μ1
def dLMM (do_ : DE) (lm : LM) (da : DA) : DE := fun δ μ Q => do_ δ μ fun x δ1 μ1 => (∃ p l, x = .ref p ∧ μ1 p = some (.lst l)) ∧ da δ1 μ1 fun ds δ2 μ2 => ∃ p l, x = .ref p ∧ μ2 p = some (.lst l) ∧ lm ds l μ2 fun d l' => Q d δ2 (updM μ2 p (.lst l'))
theorem simLMM {r : V → List V → Hp → VK → Prop} {lm : LM} {to : TE} {do_ : DE} {ta : TA} {da : DA} (hs : SimLM K r lm) (ho : SimE K Z to do_) (ha : SimA K Z ta da) : SimE K Z (tBM K "list" r to ta) (dLMM do_ lm da) := fun B hB S μ H σ δ Q QD rl k q => by
  refine ho B hB S μ H σ δ _ _ rl (fun S1 μ1 H1 δ1 x dx e1 r1 hx q1 => ?_) q
  obtain ⟨⟨p, l, rfl, hm⟩, q1⟩ := q1
  have hx : x = .ref p := hx
  subst hx
  obtain ⟨_, o, h1, vs, rfl, h2⟩ := r1.r3.mu p _ hm
  refine ⟨.inl ⟨rfl, vs, SqL.of h1⟩, ?_⟩
  refine ha B hB S1 μ1 H1 σ δ1 _ _ r1 (fun S2 μ2 H2 δ2 xs ds e2 r2 hxs q2 => ?_) q1
  obtain ⟨p', l', e, hm', q2⟩ := q2
  cases e
  obtain ⟨_, o, h3, ws, rfl, h4⟩ := r2.r3.mu p _ hm'
  refine hs S2 μ2 H2 p ws l' xs ds _ _ r2.r3 h3 h4 hxs (fun v vs' d l2 hv hl qd => ?_) q2
  obtain ⟨r4, g⟩ := r2.r3.write hm' (o := .lst vs') (m := .lst l2) ⟨vs', rfl, hl⟩
  exact k _ _ _ δ2 v d (e1.trans e2) (r2.grow g r4) hv qd
theorem bm0_sim {r : V → List V → Hp → VK → Prop} {to : TE} {de : DE} (h : SimE K Z (tBM K "list" r to tNil) de) : SimE K Z (tBM0 K "list" r to) de := h
theorem d_lmM0 {name : Str} {id : String} {o : Expr} {apos cpos : Pos} {r : V → List V → Hp → VK → Prop} {lm : LM} {to : TE} {do_ : DE} (slot : Slot "list" name id) (hty : typeOf (.builtin id) = pure (.type "method_descriptor")) (hm : MtR X id r) (hs : SimLM K r lm) (ho : PD K Z X o to do_) (hbase : attributeBase o name X.env (eval o X.env) = eval o X.env := by rfl) (hline : (apos.endLine == cpos.line) = true := by rfl) (hk : X.K = K := by rfl) :
    PD K Z X (.Call (.Attribute o name apos) [] [] cpos) (tBM0 K "list" r to) (dLMM do_ lm dNil) := by
  subst hk
  exact ⟨pe_bm0 PySem.F.plainAttrs_list slot hty hm ho.p hbase hline, bm0_sim (simLMM hs ho.s (a_nil (X := X)).s)⟩
theorem RepL.eraseIdx {S : Hp} : ∀ {ds : List D} {vs : List V} (i : Nat), RepL K S ds vs → RepL K S (ds.eraseIdx i) (vs.eraseIdx i)
  | [], _, i, h => by have h : _ = _ := h; rw [h]; simp [RepL]
  | d :: ds, _, 0, h => by
    obtain ⟨v, r, rfl, h1, h2⟩ := h
    exact h2
  | d :: ds, _, i + 1, h => by
    obtain ⟨v, r, rfl, h1, h2⟩ := h
    exact ⟨v, _, rfl, h1, RepL.eraseIdx i h2⟩
theorem RepL.dropLast {S : Hp} {ds : List D} {vs : List V} (h : RepL K S ds vs) : RepL K S ds.dropLast vs.dropLast := by
  rw [List.dropLast_eq_take, List.dropLast_eq_take, RepL.length h]
  exact RepL.take _ h
def lmClear : LM := fun ds l μ R => ds = [] ∧ R .non []
theorem sm_clear : SimLM K rClear lmClear := fun S μ H p vs l xs ds Q R r hp hl hx k q => by
  obtain ⟨rfl, q⟩ := q
  exact ⟨p, vs, rfl, hx, hp, k .non [] .non [] rfl rfl q⟩
def lmReverse : LM := fun ds l μ R => ds = [] ∧ R .non l.reverse
/-! ### list(x), then changed -/
def fList (de : DE) : DF := fun δ μ Q => de δ μ fun x δ1 μ1 => ∃ l, seqOf μ1 x = some l ∧ Q (.lst l) δ1 μ1
def rdListM : DC := fun xs μ Q => ∃ x l, xs = [x] ∧ seqOf μ x = some l ∧ ∀ p, μ p = none → Q (.ref p) (updM μ p (.lst l))
/-- a, b = x, y: both lists that are then changed -/
def dParFF (i j : Nat) (df dg : DF) : DS := fun DD δ μ => df δ μ fun m δ1 μ1 => dg δ1 μ1 fun n δ2 μ2 => DD.nx ((δ2.set i (.own m)).set j (.own n)) μ2
/-! ### a slot's own list is compared -/
def dEqO (neg : Bool) (i : Nat) (db : DE) : DE := fun δ μ Q => (∃ l, δ[i]? = some (.own (.lst l))) ∧ db δ μ fun y δ1 μ1 => ∃ l, δ1[i]? = some (.own (.lst l)) ∧ shD (.lst l) = true ∧ shD (drf μ1 y) = true ∧ Q (.bl (if neg then !eqD (.lst l) (drf μ1 y) else eqD (.lst l) (drf μ1 y))) δ1 μ1
theorem own_dp {B : Bs} {S : Hp} {μ : Mem} {H : Hp} {σ : L2.St} {δ : Ss} {i : Nat} {l : List D} {d : PyData} (r : Rel K B S μ H σ δ) (e : δ[i]? = some (.own (.lst l))) (h : pd (.lst l) = some d) : ∃ a, σ[i]? = some (some (.ref a)) ∧ Dp K H (.ref a) d := by
  obtain ⟨p, o, e1, h1, vs, rfl, h2⟩ := r.ownAt e
  refine ⟨p, e1, ?_⟩
  have h : (pds l).map PyData.list = some d := h
  cases e1 : pds l with
  | none => rw [e1] at h; cases h
  | some ps => rw [e1] at h; cases h; exact .lst (SqL.of h1) (dps_of r.r3.ex l vs ps h2 e1)
theorem simEqO {i : Nat} {tb : TE} {db : DE} (h : SimE K Z tb db) : SimE K Z (tOp (rEqA K) (tVar i) tb) (dEqO false i db) := fun B hB S μ H σ δ Q QD rl k q => by
  obtain ⟨⟨l0, e0⟩, q⟩ := q
  obtain ⟨p, o, e1, _⟩ := rl.ownAt e0
  refine ⟨.ref p, e1, ?_⟩
  refine h B hB S μ H σ δ _ _ rl (fun S1 μ1 H1 δ1 x dx e2 r1 hx q1 => ?_) q
  obtain ⟨l, e, s1, s2, q1⟩ := q1
  obtain ⟨d1, z1, t1⟩ := shD_some s1
  obtain ⟨d2, z2, t2⟩ := shD_some s2
  obtain ⟨a, ea, h3⟩ := own_dp r1 e z1
  rw [e1] at ea
  cases ea
  exact .inr ⟨d1, d2, h3, dp_drf r1.r3 hx z2, t1, t2, k S1 μ1 H1 δ1 _ (.bl (eqD (.lst l) (drf μ1 dx))) e2 r1 (by unfold eqD; rw [z1, z2]; rfl) q1⟩
theorem t_eqO {b : Expr} {x : Str} {p pos : Pos} {tb : TE} {db : DE} (i : Nat) (hu : X.A.units + 64 < cLine) (hb : PD K Z X b tb db) (hN : X.N[i]? = some x := by rfl) (hv : Vis X.env.scope x := by first | exact Or.inl rfl | exact Or.inr (Or.inl rfl) | exact Or.inr (Or.inr rfl)) (hd : (x == ("__debug__" : Str)) = false := by decide) (hcd : (x == ("__classdict__" : Str)) = false := by decide) (hm : behindInMarks .Eq b = false := by rfl) (hk : X.K = K := by rfl) :
    PDT K Z X (.Compare (.Name x p) [.Eq] [b] pos) (tTest (tOp (rEqA K) (tVar i) tb)) (dTest (dEqO false i db)) := by
  subst hk
  exact ⟨pt_cmpR (op_eq.or (op_eqD hu)) (pe_var hN hv hd hcd) hb.p hm, simTest (simEqO hb.s)⟩
/-! ### x in l of data of any depth -/
def anyD (x : D) (l : List D) : Bool := l.any fun z => eqD z x
theorem anyD_pds : ∀ {l : List D} {ps : List PyData} {x : D} {d : PyData}, pds l = some ps → pd x = some d → (ps.any fun z => PyData.eqv z d) = anyD x l
  | [], ps, x, d, h, hx => by cases (show some [] = some ps from h); rfl
  | y :: l, ps, x, d, h, hx => by
    have h : (pd y).bind (fun z => (pds l).map (z :: ·)) = some ps := h
    cases e1 : pd y with
    | none => rw [e1] at h; cases h
    | some a =>
      cases e2 : pds l with
      | none => rw [e1, e2] at h; cases h
      | some b =>
        rw [e1, e2] at h
        cases (show some (a :: b) = some ps from h)
        unfold anyD
        rw [List.any_cons, List.any_cons, anyD_pds e2 hx]
        have : PyData.eqv a d = eqD y x := by unfold eqD; rw [e1, hx]
        rw [this]
        rfl
theorem inD_dp {S : Hp} {μ : Mem} {H : Hp} {y : V} {dy : D} {l : List D} (r : R3 K S μ H) (hy : Rep K S dy y) (e : drf μ dy = .lst l) (h : shD (.lst l) = true) : ∃ ps, pds l = some ps ∧ SeqAt.shaped (.list ps) = true ∧ Dp K H y (.list ps) := by
  obtain ⟨p, e1, s1⟩ := shD_some h
  have h0 : (pds l).map PyData.list = some p := e1
  cases e2 : pds l with
  | none => rw [e2] at h0; cases h0
  | some ps =>
    rw [e2] at h0
    cases h0
    exact ⟨ps, rfl, s1, dp_drf r hy (by rw [e]; exact e1)⟩
theorem rm65 {k : Nat} {A : Around} (r : Room k A) : A.units + 65 < cLine := by have := r.un; omega
end Dl
namespace Dl
open PySem PySem.Spec PyProof.Rows L2
variable {X : Cx} {K : PySem.W.Frag} {Z : Bs}
/-! ### a text so often -/
def rdMulS : DR := fun x y μ Q => ∃ z n, x = .str z ∧ y = .int n ∧ 0 ≤ n ∧ n ≤ 1000 ∧ z.length ≤ 1000 ∧ Q (.str (Txt.mul z n)) μ
/-! ### isinstance(e, ValueError) -/
/-- the class of a caught exception -/
def excOf : D → Option Str
  | .exc c _ _ => some c
  | _ => none
def dIsV (EX : List Str) (de : DE) : DE := fun δ μ Q => de δ μ fun x δ1 μ1 => ∃ c, excOf x = some c ∧ EX.contains c = true ∧ Q (.bl true) δ1 μ1
/-! ### x or y, x a list -/
def dOrL (da db : DE) : DE := fun δ μ Q => da δ μ fun x δ1 μ1 => ∃ l, seqOf μ1 x = some l ∧ if (!l.isEmpty) = true then Q x δ1 μ1 else db δ1 μ1 Q
end Dl
namespace Dl
open PySem PySem.Spec PyProof.Rows L2
variable {X : Cx} {K : PySem.W.Frag} {Z : Bs}
/-! ### divmod -/
def rdDivMod : DC := fun xs μ Q => ∃ i j, xs = [.int i, .int j] ∧ (0 < j ∧ j < 1073741824) ∧ Q (.tup [.int (i / j), .int (i % j)]) μ
/-! ### sum of ints, a list or a tuple -/
section
variable {prog : Program} {w : World} {A : Around} {E : Value → Shared → Prop} {s : Shared} {l : Addr} {its : List Value} {ns : List Int} {Q : Value → Shared → Prop}
theorem sum_rawT (hh : A.handled = none) (hl : s.heap.IsTuple l its.toArray) (hi : IntsAre its ns)
    (h : ∀ h' tk t', (∀ b o, s.heap.get? b = some o → h'.get? b = some o) → Q (.int ns.sum t') { s with heap := h', toks := tk }) : wpAny (model prog w) A (call (.builtin "sum") [.ref l]) Q E s := by
  obtain ⟨xs, e⟩ := hi.allInts.items
  have hn : numsOf (intItems xs).toList = ns := by rw [← e]; exact hi.numsOf
  rw [nums_intItems] at hn
  rw [e] at hl
  have hlt : l < s.heap.objs.size := by obtain ⟨_, e, _⟩ := hl; exact Heap.lt_size e
  refine call_sum_walkG (wpAny_pyIter_tuple hl ⟨_, _, _, _, _, _, numAt xs, rfl, Walks.tuple (A := A.in1) hh _ l (Nat.ne_of_lt hlt) (intItems xs), ⟨⟨_, Heap.get?_push_size _ rfl, rfl, rfl⟩, hl.push _⟩, fun b hb => ?_, (fun _ _ => intItems_at), fun h' tk t' hk => ?_⟩)
  · show b < (s.heap.push _).objs.size
    rw [Heap.size_push]
    rcases List.mem_cons.mp hb with rfl | hb
    · exact Nat.lt_succ_self _
    · rcases List.mem_cons.mp hb with rfl | hb
      · exact Nat.lt_succ_of_lt hlt
      · cases hb
  · have := h h' tk t' fun b o e => hk b o (fun hb => absurd (Heap.lt_size e) ((List.mem_singleton.mp hb) ▸ Nat.lt_irrefl _)) (Heap.get?_push_of_some _ e)
    rw [preSum_eq, List.take_of_length_le (by simp [intItems]), hn]; exact this
end
def rSumA (K : PySem.W.Frag) : List V → Hp → VK → Prop := fun vs H Q => ∃ (a : Addr) (ns : List Int), vs = [V.ref a] ∧ (SqL K H a (ns.map V.int) ∨ SqT K H a (ns.map V.int)) ∧ Q (.int ns.sum) H
theorem call_sumA (hc : X.calm = true) : CallR X (.builtin "sum") (rSumA X.K) := by
  intro pins s σ H vs us Q I r h
  obtain ⟨a, ns, rfl, hs | hs, q⟩ := h
  · exact cr_sum hc pins s σ H _ us Q I r ⟨a, ns, rfl, hs, q⟩
  · obtain ⟨its, rv, hl, _⟩ := I.tuple hs
    rw [Vals.ref1 r]
    exact sum_rawT (I.ok.hd hc) (show s.heap.IsTuple a its.toArray from hl) rv.ints fun h' tk t' hk => ⟨.int _, H, I.kept hk, ⟨_, rfl⟩, q⟩
def rdSum : DC := fun xs μ Q => ∃ (d : D) (ns : List Int), xs = [d] ∧ seqOf μ d = some (ns.map .int) ∧ Q (.int ns.sum) μ
theorem c_sum (hc : X.calm = true) (hk : X.K = K := by rfl) : PDC K X (.builtin "sum") (rSumA K) rdSum := by
  subst hk
  exact ⟨call_sumA hc, fun S μ H xs ds Q QD r hx k q => by
    obtain ⟨d, ns, rfl, hl, q⟩ := q
    obtain ⟨v, rfl, hv⟩ := RepL.one' hx
    obtain ⟨a, vs, rfl, h1, h2⟩ := seq_is r hv hl
    rw [RepL.int h2] at h1
    exact ⟨a, ns, rfl, h1, k S μ H _ (.int ns.sum) Grow.refl r rfl q⟩⟩
/-! ### x[lo::-1] -/
/-- so many items stand up to the place -/
def revIx (n : Nat) : Option Int → Nat
  | none => n
  | some v => if v < 0 then (v + n + 1).toNat else min (v + 1).toNat n
def dRev (de : DE) (dl : DO) : DE := fun δ μ Q => de δ μ fun x δ1 μ1 => dl δ1 μ1 fun o δ2 μ2 => (∃ l, x = .tup l ∧ Q (.tup (l.take (revIx l.length o)).reverse) δ2 μ2) ∨ (∃ l, o = none ∧ (∀ m, x ≠ .tup m) ∧ seqOf μ2 x = some l ∧ Q (.lst l.reverse) δ2 μ2)
/-! ### a list of the heap, standing -/
/-! ### enumerate -/
def enumD (l : List D) : List D := l.mapIdx fun i d => .tup [.int (i : Nat), d]
def diEnum (da : DA) : DI := fun δ μ Q => da δ μ fun ds δ1 μ1 => ∃ d, ds = [d] ∧ WkL d μ1 fun l G => Q (enumD l) G δ1 μ1
/-! ### zip -/
def zipD (l m : List D) : List D := List.zipWith (fun a b => .tup [a, b]) l m
def diZip (da : DA) : DI := fun δ μ Q => da δ μ fun ds δ1 μ1 => ∃ d e, ds = [d, e] ∧ ((WkL d μ1 fun l G => WkL e μ1 fun m G' => Q (zipD l m) (fun μ => G μ ∧ G' μ) δ1 μ1) ∨ (∃ l m, d = .tup l ∧ e = .tup m ∧ Q (zipD l m) (fun _ => True) δ1 μ1))
/-! ### a list, of the memory or not, or a tuple is walked -/
def WkA (d : D) (μ : Mem) (R : List D → (Mem → Prop) → Prop) : Prop := WkL d μ R ∨ ∃ l, d = .tup l ∧ R l (fun _ => True)
def diSeqA (de : DE) : DI := fun δ μ Q => de δ μ fun d δ1 μ1 => WkA d μ1 fun l G => Q l G δ1 μ1
end Dl
namespace Dl
open PySem PySem.Spec PyProof.Rows L2
variable {X : Cx} {K : PySem.W.Frag} {Z : Bs}
/-! ### enumerate(tuple) -/
def diEnumA (da : DA) : DI := fun δ μ Q => da δ μ fun ds δ1 μ1 => ∃ d, ds = [d] ∧ WkA d μ1 fun l G => Q (enumD l) G δ1 μ1
end Dl
namespace Dl
open PySem PySem.Spec PyProof.Rows L2
variable {X : Cx} {K : PySem.W.Frag} {Z : Bs}
/-! ### sorted(d), keys whole numbers, any number of them -/
/-! ### len(d) -/
/-! ### x < y, data -/
/-! ### min(x, y), data -/
/-! ### d.get(k, x) -/
def dGetD (da db dx : DE) : DE := fun δ μ Q => da δ μ fun x δ1 μ1 => (∃ l, dicOf μ1 x = some l) ∧ db δ1 μ1 fun y δ2 μ2 => dx δ2 μ2 fun z δ3 μ3 => ∃ l k, dicOf μ3 x = some l ∧ keyD y = some k ∧ Q ((valD l k).getD z) δ3 μ3
theorem d_getD {o e f : Expr} {apos cpos : Pos} {td ty tx : TE} {da db dx : DE} (hu : X.A.units + 1 < cLine) (ho : PD K Z X o td da) (he : PD K Z X e ty db) (hf : PD K Z X f tx dx)
    (h1 : attributeBase o "get" X.env (eval o X.env) = eval o X.env := by rfl) (h2 : ((backTo cpos (starEach [e, f] X.env)).all (fun x => !x.1) && (backToKw cpos (keywordEach [] X.env)).all (fun x => x.1.isSome)
    && decide (([e, f] : List Expr).length + ([] : List Keyword).length + (if ([] : List Keyword).isEmpty then 0 else 1) < 30)) = true := by rfl) (h3 : (apos.endLine == cpos.line) = true := by rfl) (h4 : backTo cpos (starEach [e, f] X.env) = [(false, eval e X.env), (false, eval f X.env)] := by rfl) :
    PD K Z X (.Call (.Attribute o "get" apos) [e, f] [] cpos) (tDGet2 td ty tx) (dGetD da db dx) := ⟨pe_dget2 hu ho.p he.p hf.p ⟨h1, h2, h3, h4⟩, fun B hB S μ H σ δ Q QD rl k q => by
  refine ho.s B hB S μ H σ δ _ _ rl (fun S1 μ1 H1 δ1 x dx' e1 r1 hx q1 => ?_) q
  obtain ⟨⟨l0, hl0⟩, q1⟩ := q1
  obtain ⟨a, vs0, rfl, hd0, _⟩ := dic_is r1.r3 hx hl0
  refine ⟨a, rfl, .inl ⟨vs0, hd0⟩, ?_⟩
  refine he.s B hB S1 μ1 H1 σ δ1 _ _ r1 (fun S2 μ2 H2 δ2 y dy e2 r2 hy q2 => ?_) q1
  refine hf.s B hB S2 μ2 H2 σ δ2 _ _ r2 (fun S3 μ3 H3 δ3 z dz e3 r3 hz q3 => ?_) q2
  obtain ⟨l, kk, hl, hk, q3⟩ := q3
  obtain ⟨a', vs, ea, hd, h5⟩ := dic_is r3.r3 (Rep.mono (e2.trans e3) _ _ hx) hl
  cases ea
  have hy' := key_v hy hk
  subst hy'
  obtain ⟨v1, v2⟩ := RepK.val (k := kk) h5
  refine ⟨valV vs kk, .inl ⟨vs, kk, hd, rfl, rfl⟩, ?_⟩
  refine k S3 μ3 H3 δ3 _ ((valD l kk).getD dz) ((e1.trans e2).trans e3) r3 ?_ q3
  cases ev : valD l kk with
  | none => rw [v2 ev]; exact hz
  | some d =>
    obtain ⟨v, e4, h4⟩ := v1 d ev
    rw [e4]; exact h4⟩
/-! ### {k: v} -/
def dDic1 (kc : Key) (dv : DE) : DE := fun δ μ Q => ∀ p, μ p = none → dv δ (updM μ p (.dct [])) fun d δ1 μ1 => μ1 p = some (.dct []) ∧ Q (.ref p) δ1 (updM μ1 p (.dct [(kc, d)]))
/-! ### list(d.items()) -/
def kD : Key → D
  | .inl i => .int i
  | .inr z => .str z
def itemD (p : Key × D) : D := .tup [kD p.1, p.2]
def dItems (de : DE) : DE := fun δ μ Q => de δ μ fun x δ1 μ1 => ∃ p l, x = .ref p ∧ μ1 p = some (.dct l) ∧ Q (.lst (l.map itemD)) δ1 μ1
/-! ### sorted(list of data) -/
theorem dp_each {pins : List (Addr × Obj)} {σ : L2.St} {H : Hp} {s : Shared} (I : Inv X pins σ H s) : ∀ {bs : List (V × PyData)} {its : List Value}, Vals (bs.map (·.1)) its → (∀ b ∈ bs, Dp X.K H b.1 b.2) → PySem.W.EachIs (fun v (b : V × PyData) => RelV b.1 v) its bs ∧ PySem.W.EachIs (fun v (b : V × PyData) => ∃ as, Reads s.heap v b.2 as) its bs
  | [], _, r, _ => by cases r; exact ⟨.nil, .nil⟩
  | b :: bs, _, r, h => by
    cases r with
    | cons r1 r2 =>
      obtain ⟨a1, a2⟩ := dp_each I r2 fun x hx => h x (List.mem_cons_of_mem _ hx)
      exact ⟨.cons r1 a1, .cons (Dp.reads I b.2 b.1 _ (h b List.mem_cons_self) r1) a2⟩
theorem each_vals : ∀ {bs : List (V × PyData)} {its : List Value}, PySem.W.EachIs (fun v (b : V × PyData) => RelV b.1 v) its bs → Vals (bs.map (·.1)) its
  | _, _, .nil => .nil
  | _, _, .cons h t => .cons h (each_vals t)
theorem zip_rep {S : Hp} : ∀ {ps : List (D × PyData)} {vs : List V}, RepL K S (ps.map (·.1)) vs → ∃ ts : List ((D × PyData) × V), ts.map (·.1) = ps ∧ ts.map (·.2) = vs ∧ ∀ t ∈ ts, Rep K S t.1.1 t.2
  | [], vs, h => by
    have h : vs = [] := h
    subst h
    exact ⟨[], rfl, rfl, fun _ h => nomatch h⟩
  | p :: ps, vs, h => by
    obtain ⟨v, r, rfl, h1, h2⟩ := h
    obtain ⟨ts, e1, e2, h3⟩ := zip_rep h2
    refine ⟨(p, v) :: ts, by rw [List.map_cons, e1], by rw [List.map_cons, e2], fun t ht => ?_⟩
    rcases List.mem_cons.mp ht with rfl | ht
    · exact h1
    · exact h3 t ht
theorem rep_zip {S : Hp} : ∀ {ts : List ((D × PyData) × V)}, (∀ t ∈ ts, Rep K S t.1.1 t.2) → RepL K S (ts.map (·.1.1)) (ts.map (·.2))
  | [], _ => rfl
  | t :: ts, h => ⟨_, _, rfl, h t List.mem_cons_self, rep_zip fun x hx => h x (List.mem_cons_of_mem _ hx)⟩
/-! ### list(d), dict(d) -/
/-! ### l.index(x) -/
def dIndex (do_ de : DE) : DE := fun δ μ Q => do_ δ μ fun x δ1 μ1 => (∃ l, lstOf μ1 x = some l) ∧ de δ1 μ1 fun y δ2 μ2 => ∃ l ps p j z, lstOf μ2 x = some l ∧ pds l = some ps ∧ pd y = some p ∧ SeqAt.shaped (.list ps) = true ∧ SeqAt.shaped p = true ∧ ps[j]? = some z ∧ PyData.eqv z p = true ∧ (∀ (m : Nat) (z' : PyData), m < j → ps[m]? = some z' → PyData.eqv z' p = false) ∧ Q (.int (j : Nat)) δ2 μ2
end Dl
namespace Dl
open PySem PySem.Spec PyProof.Rows L2
variable {X : Cx} {K : PySem.W.Frag} {Z : Bs}
/-! ### isinstance of a cell -/
/-! ### a dict that is locked while it is walked -/
def dLock (ds : DS) : DS := fun DD δ μ => ∃ p l, μ p = some (.dct l) ∧ ∀ od kvs, ds ⟨fun δ' μ' => μ' p = some (.lck od kvs l) ∧ DD.nx δ' (updM μ' p (.dct l)), fun v μ' => μ' p = some (.lck od kvs l) ∧ DD.rt v (updM μ' p (.dct l)), fun δ' μ' => μ' p = some (.lck od kvs l) ∧ DD.bk δ' (updM μ' p (.dct l)), fun δ' μ' => μ' p = some (.lck od kvs l) ∧ DD.ct δ' (updM μ' p (.dct l))⟩ δ (updM μ p (.lck od kvs l))
def diItems (de : DE) : DI := fun δ μ Q => de δ μ fun x δ1 μ1 => ∃ p od kvs l, x = .ref p ∧ μ1 p = some (.lck od kvs l) ∧ Q (l.map itemD) (fun μ => μ p = some (.lck od kvs l)) δ1 μ1
/-! ### .. its values -/
def diVals (de : DE) : DI := fun δ μ Q => de δ μ fun x δ1 μ1 => ∃ p od kvs l, x = .ref p ∧ μ1 p = some (.lck od kvs l) ∧ Q (l.map (·.2)) (fun μ => μ p = some (.lck od kvs l)) δ1 μ1
/-! ### .. its keys -/
def diKeys (de : DE) : DI := fun δ μ Q => de δ μ fun x δ1 μ1 => ∃ p od kvs l, x = .ref p ∧ μ1 p = some (.lck od kvs l) ∧ Q (l.map fun q => kD q.1) (fun μ => μ p = some (.lck od kvs l)) δ1 μ1
/-! ### dict(d) -/
/-! ### x -= e -/
end Dl
namespace Dl
open PySem PySem.Spec PyProof.Rows L2
variable {X : Cx} {K : PySem.W.Frag} {Z : Bs}
/-! ### k in d -/
/-! ### min(list of data) -/
theorem readsAll_of {h : Heap} : ∀ {its : List Value} {bs : List (V × PyData)}, PySem.W.EachIs (fun v (b : V × PyData) => ∃ as, Reads h v b.2 as) its bs → ∃ as, ReadsAll h its (bs.map (·.2)) as
  | _, _, .nil => ⟨_, .nil⟩
  | _, _, .cons h t => by
    obtain ⟨as, h⟩ := h
    obtain ⟨bs, t⟩ := readsAll_of t
    exact ⟨_, .cons h t⟩
theorem depthAll_le {n : Nat} : ∀ {xs : List PyData}, (∀ x ∈ xs, x.depth ≤ n) → PyData.depthAll xs ≤ n
  | [], _ => by simp [PyData.depthAll]
  | x :: xs, h => by
    have h1 := h x List.mem_cons_self
    have h2 := depthAll_le fun y hy => h y (List.mem_cons_of_mem _ hy)
    simp only [PyData.depthAll]
    omega
/-! ### min(list of data, default=x) -/
/-- min(l, default=z) -/
def dMinF (da dk : DA) : DE := fun δ μ Q => da δ μ fun xs δ1 μ1 => dk δ1 μ1 fun zs δ2 μ2 => ∃ (d z : D) (ps : List (D × PyData)), xs = [d] ∧ zs = [z] ∧ lstOf μ2 d = some (ps.map (·.1)) ∧ (∀ c ∈ ps, pd c.1 = some c.2) ∧ PySem.W.AlikeAll (ps.map (·.2)) ∧ (∀ c ∈ ps, c.2.depth ≤ 40) ∧ (ps = [] → Q z δ2 μ2) ∧ ∀ p ps', ps = p :: ps' → ∀ c ∈ ps, c.2 = PySem.W.minD p.2 (ps'.map (·.2)) → Q c.1 δ2 μ2
/-! ### d.setdefault(k, x) -/
def dSetd (do_ dk dx : DE) : DE := fun δ μ Q => do_ δ μ fun x δ1 μ1 => (∃ p l, x = .ref p ∧ μ1 p = some (.dct l)) ∧ dk δ1 μ1 fun y δ2 μ2 => dx δ2 μ2 fun z δ3 μ3 => ∃ p l k, x = .ref p ∧ μ3 p = some (.dct l) ∧ keyD y = some k ∧ l.length < sizeLine ∧
  (∀ d, valD l k = some d → Q d δ3 μ3) ∧ (valD l k = none → Q z δ3 (updM μ3 p (.dct (putKD l k z))))
/-! ### d[k] += e -/
def dAugK (do_ dk de : DE) (f : Int → Int → Int) : DS := fun DD δ μ => do_ δ μ fun x δ1 μ1 => dk δ1 μ1 fun y δ2 μ2 => ∃ l k n, dicOf μ2 x = some l ∧ keyD y = some k ∧ valD l k = some (.int n) ∧
  de δ2 μ2 fun d δ3 μ3 => ∃ m p l', d = .int m ∧ x = .ref p ∧ μ3 p = some (.dct l') ∧ l'.length < sizeLine ∧ DD.nx δ3 (updM μ3 p (.dct (putKD l' k (.int (f n m)))))
end Dl
namespace Dl
open PySem PySem.Spec PyProof.Rows L2
variable {K : PySem.W.Frag} {μ : Mem} {δ : Ss} {Q : QE} {QM' : QM} {nx bk ct : Ss → Mem → Prop} {rt : QM}
/-! ### the walk's steps: statements -/
def nxSet (R : Ss → Mem → Prop) (k : Nat) (x : SL) : Ss → Mem → Prop := fun δ μ => R (δ.set k x) μ
theorem i_seq {t u : DS} (h : t ⟨u ⟨nx, rt, bk, ct⟩, rt, bk, ct⟩ δ μ) : dSeq t u ⟨nx, rt, bk, ct⟩ δ μ := h
def apNx (R : Ss → Mem → Prop) (i : Nat) (d : D) : Ss → Mem → Prop := fun δ1 μ1 => ∃ b, δ1[i]? = some (.own (.lst b)) ∧ b.length < sizeLine ∧ R (δ1.set i (.own (.lst (b ++ [d])))) μ1
theorem i_next (h : nx δ μ) : dNext ⟨nx, rt, bk, ct⟩ δ μ := h
theorem i_break (h : bk δ μ) : dBreak ⟨nx, rt, bk, ct⟩ δ μ := h
theorem i_cont (h : ct δ μ) : dCont ⟨nx, rt, bk, ct⟩ δ μ := h
theorem i_set {i : Nat} {de : DE} (h : de δ μ fun d δ1 μ1 => nxSet nx i (.val d) δ1 μ1) : dSet i de ⟨nx, rt, bk, ct⟩ δ μ := h
theorem i_own {i : Nat} {df : DF} (h : df δ μ fun m δ1 μ1 => nxSet nx i (.own m) δ1 μ1) : dOwn i df ⟨nx, rt, bk, ct⟩ δ μ := h
theorem i_asg {de : DE} {g : DG} (h : de δ μ fun d δ1 μ1 => g d δ1 μ1 nx) : dAsg de g ⟨nx, rt, bk, ct⟩ δ μ := h
theorem i_gname {i : Nat} {d : D} {R : Ss → Mem → Prop} (h : nxSet R i (.val d) δ μ) : gdName i d δ μ R := h
theorem i_gtup {n : Nat} {t : DGs} {l : List D} {R : Ss → Mem → Prop} (hl : l.length = n) (h : t l δ μ R) : gdTup n t (.tup l) δ μ R := ⟨l, rfl, hl, h⟩
theorem i_glst {n : Nat} {t : DGs} {l : List D} {R : Ss → Mem → Prop} (hl : l.length = n) (h : t l δ μ R) : gdLst n t (.lst l) δ μ R := ⟨l, rfl, hl, h⟩
theorem i_gcons {t : DG} {u : DGs} {d : D} {r : List D} {R : Ss → Mem → Prop} (h : t d δ μ fun δ' μ' => u r δ' μ' R) : gdCons t u (d :: r) δ μ R := ⟨d, r, rfl, h⟩
theorem i_gnil {R : Ss → Mem → Prop} (h : R δ μ) : gdNil [] δ μ R := ⟨rfl, h⟩
theorem i_drop {de : DE} (h : de δ μ fun _ δ1 μ1 => nx δ1 μ1) : dDrop de ⟨nx, rt, bk, ct⟩ δ μ := h
theorem i_ret {de : DE} (h : de δ μ fun d _ μ1 => rt d μ1) : dRet de ⟨nx, rt, bk, ct⟩ δ μ := h
theorem i_retN (h : rt .non μ) : dRetN ⟨nx, rt, bk, ct⟩ δ μ := h
theorem i_ifs {c : DT} {t u : DS} (h : c δ μ fun b δ1 μ1 => if b = true then t ⟨nx, rt, bk, ct⟩ δ1 μ1 else u ⟨nx, rt, bk, ct⟩ δ1 μ1) : dIfS c t u ⟨nx, rt, bk, ct⟩ δ μ := h
/-! expressions -/
theorem i_C {d : D} (h : Q d δ μ) : dC d δ μ Q := h
theorem i_op {dr : DR} {da db : DE} (h : da δ μ fun x δ1 μ1 => db δ1 μ1 fun y δ2 μ2 => dr x y μ2 fun d μ3 => Q d δ2 μ3) : dOp dr da db δ μ Q := h
theorem i_chain {r r' : DR} {da db dc : DE} (h : da δ μ fun x δ1 μ1 => db δ1 μ1 fun y δ2 μ2 => r x y μ2 fun z μ3 => ∃ k, z = .bl k ∧ (if k = true then dc δ2 μ3 fun w δ4 μ4 => r' y w μ4 fun d μ5 => Q d δ4 μ5 else Q (.bl false) δ2 μ3)) : dChain r r' da db dc δ μ Q := h
theorem i_exbl {b : Bool} {P : Bool → Prop} (h : P b) : ∃ k, D.bl b = .bl k ∧ P k := ⟨b, rfl, h⟩
theorem i_exint {b : Int} {P : Int → Prop} (h : P b) : ∃ k, D.int b = .int k ∧ P k := ⟨b, rfl, h⟩
theorem i_exstr {b : Str} {P : Str → Prop} (h : P b) : ∃ k, D.str b = .str k ∧ P k := ⟨b, rfl, h⟩
theorem i_test {de : DE} {R : Bool → Ss → Mem → Prop} (h : de δ μ fun d δ1 μ1 => ∃ b, d = .bl b ∧ R b δ1 μ1) : dTest de δ μ R := h
theorem i_and {t u : DT} {R : Bool → Ss → Mem → Prop} (h : t δ μ fun c δ1 μ1 => if c = true then u δ1 μ1 R else R false δ1 μ1) : dAnd t u δ μ R := h
theorem i_or {t u : DT} {R : Bool → Ss → Mem → Prop} (h : t δ μ fun c δ1 μ1 => if c = true then R true δ1 μ1 else u δ1 μ1 R) : dOr t u δ μ R := h
theorem i_not {t : DT} {R : Bool → Ss → Mem → Prop} (h : t δ μ fun c δ1 μ1 => R (!c) δ1 μ1) : dNot t δ μ R := h
theorem i_andV {t u : DE} (h : t δ μ fun x δ1 μ1 => ∃ c, x = .bl c ∧ if c = true then u δ1 μ1 Q else Q (.bl false) δ1 μ1) : dAndV t u δ μ Q := h
theorem i_orV {t u : DE} (h : t δ μ fun x δ1 μ1 => ∃ c, x = .bl c ∧ if c = true then Q (.bl true) δ1 μ1 else u δ1 μ1 Q) : dOrV t u δ μ Q := h
theorem i_notV {t : DE} (h : t δ μ fun x δ1 μ1 => ∃ c, x = .bl c ∧ Q (.bl (!c)) δ1 μ1) : dNotV t δ μ Q := h
theorem i_ifE {t : DT} {da db : DE} (h : t δ μ fun c δ1 μ1 => if c = true then da δ1 μ1 Q else db δ1 μ1 Q) : dIf t da db δ μ Q := h
theorem i_nil {R : List D → Ss → Mem → Prop} (h : R [] δ μ) : dNil δ μ R := h
theorem i_cons {da : DE} {dr : DA} {R : List D → Ss → Mem → Prop} (h : da δ μ fun x δ1 μ1 => dr δ1 μ1 fun xs δ2 μ2 => R (x :: xs) δ2 μ2) : dCons da dr δ μ R := h
theorem i_tup0 {da : DA} (h : da δ μ fun xs δ1 μ1 => xs.length ≤ sizeLine ∧ Q (.tup xs) δ1 μ1) : dTup da δ μ Q := h
theorem i_lst0 {da : DA} (h : da δ μ fun xs δ1 μ1 => xs.length ≤ sizeLine ∧ Q (.lst xs) δ1 μ1) : dLst da δ μ Q := h
theorem i_flst0 {da : DA} {R : MO → Ss → Mem → Prop} (h : da δ μ fun xs δ1 μ1 => xs.length ≤ sizeLine ∧ R (.lst xs) δ1 μ1) : fLst da δ μ R := h
theorem i_lstM0 {da : DA} (h : da δ μ fun xs δ1 μ1 => xs.length ≤ sizeLine ∧ ∀ p, μ1 p = none → Q (.ref p) δ1 (updM μ1 p (.lst xs))) : dLstM da δ μ Q := h
theorem i_ice {df : DF} (h : df δ μ fun m δ1 μ1 => Q (frozen m) δ1 μ1) : dIce df δ μ Q := h
theorem i_CB {dc : DC} {da : DA} (h : da δ μ fun ds δ1 μ1 => dc ds μ1 fun d μ2 => Q d δ1 μ2) : dCB dc da δ μ Q := h
theorem i_callX {dsp : DSp} {dds : List D} {XD : DXW} {da : DA} (h : da δ μ fun ds δ1 μ1 => dsp (ds ++ dds) μ1 (fun d μ2 => Q d δ1 μ2) (fun c fs μ2 => XD c fs δ1 μ2)) : dCallX dsp dds XD da δ μ Q := h
theorem i_callX0 {dsp : DSp} {XD : DXW} {da : DA} (h : da δ μ fun ds δ1 μ1 => dsp ds μ1 (fun d μ2 => Q d δ1 μ2) (fun c fs μ2 => XD c fs δ1 μ2)) : dCallX dsp [] XD da δ μ Q := by
  unfold dCallX
  simp only [List.append_nil]
  exact h
/-- the receiver of a method -/
def OnM (C m : Str) (x : D) (μ : Mem) (R : Prop) : Prop := ∃ fs, objOf μ x = some (C, fs) ∧ fs.lookup m = none ∧ R
theorem i_methX {C m : Str} {dsp : DSp} {dds : List D} {XD : DXW} {do_ : DE} {da : DA} (h : do_ δ μ fun x δ1 μ1 => OnM C m x μ1 (da δ1 μ1 fun ds δ2 μ2 => dsp (x :: (ds ++ dds)) μ2 (fun d μ3 => Q d δ2 μ3) (fun c fs μ3 => XD c fs δ2 μ3))) : dMethX C m dsp dds XD do_ da δ μ Q := h
theorem i_methX0 {C m : Str} {dsp : DSp} {XD : DXW} {do_ : DE} {da : DA} (h : do_ δ μ fun x δ1 μ1 => OnM C m x μ1 (da δ1 μ1 fun ds δ2 μ2 => dsp (x :: ds) μ2 (fun d μ3 => Q d δ2 μ3) (fun c fs μ3 => XD c fs δ2 μ3))) : dMethX C m dsp [] XD do_ da δ μ Q := by
  unfold dMethX
  simp only [List.append_nil]
  exact h
theorem onm_obj {C m : Str} {fs : List (Str × D)} {R : Prop} (hm : fs.lookup m = none) (h : R) : OnM C m (.obj C fs) μ R := ⟨fs, rfl, hm, h⟩
/-- a field -/
def OfF (C f : Str) (x : D) (μ : Mem) (R : D → Prop) : Prop := ∃ fs d, objOf μ x = some (C, fs) ∧ fs.lookup f = some d ∧ R d
theorem i_fld {C f : Str} {da : DE} (h : da δ μ fun x δ1 μ1 => OfF C f x μ1 fun d => Q d δ1 μ1) : dFld C f da δ μ Q := h
theorem off_obj {C f : Str} {fs : List (Str × D)} {d : D} {R : D → Prop} (e : fs.lookup f = some d) (h : R d) : OfF C f (.obj C fs) μ R := ⟨fs, d, rfl, e, h⟩
/-- a field is set -/
def ToF (C f : Str) (x d : D) (μ : Mem) (R : Mem → Prop) : Prop := ∃ p fs, x = .ref p ∧ μ p = some (.obj C fs) ∧ fs.length < 1000 ∧ R (updM μ p (.obj C (putD f d fs)))
theorem i_setFld {C f : Str} {da de : DE} (h : de δ μ fun d δ1 μ1 => da δ1 μ1 fun x δ2 μ2 => ToF C f x d μ2 fun μ3 => nx δ2 μ3) : dSetFld C f da de ⟨nx, rt, bk, ct⟩ δ μ := h
theorem tof_ref {C f : Str} {p : Addr} {d : D} {fs gs : List (Str × D)} {R : Mem → Prop} (hp : μ p = some (.obj C fs)) (e : putD f d fs = gs) (hl : fs.length < 1000) (h : R (updM μ p (.obj C gs))) : ToF C f (.ref p) d μ R := ⟨p, fs, rfl, hp, hl, by rw [e]; exact h⟩
/-- an exception leaves a maker: what was begun is gone -/
def DropX (XD : DXW) (p : Addr) : DXW := fun c fs δ μ => XD c fs δ (dropM μ p)
theorem i_makeM {C : Str} {dsp : DSp} {dds : List D} {XD : DXW} {da : DA} (h : da δ μ fun ds δ1 μ1 => ∀ p, μ1 p = none → dsp (.ref p :: (ds ++ dds)) (updM μ1 p (.obj C [])) (fun d μ2 => d = .non ∧ Q (.ref p) δ1 μ2) (fun c fs μ2 => DropX XD p c fs δ1 μ2)) : dMakeM C dsp dds XD da δ μ Q := h
theorem i_makeM0 {C : Str} {dsp : DSp} {XD : DXW} {da : DA} (h : da δ μ fun ds δ1 μ1 => ∀ p, μ1 p = none → dsp (.ref p :: ds) (updM μ1 p (.obj C [])) (fun d μ2 => d = .non ∧ Q (.ref p) δ1 μ2) (fun c fs μ2 => DropX XD p c fs δ1 μ2)) : dMakeM C dsp [] XD da δ μ Q := by
  unfold dMakeM
  simp only [List.append_nil]
  exact h
/-- what an object becomes that stays -/
def IceO (C : Str) (p : Addr) (d : D) (μ : Mem) (R : D → Mem → Prop) : Prop := d = .non ∧ ∃ p' fs, D.ref p = .ref p' ∧ μ p' = some (.obj C fs) ∧ R (.obj C fs) (dropM μ p')
theorem ice_o {C : Str} {p : Addr} {fs : List (Str × D)} {R : D → Mem → Prop} (hp : μ p = some (.obj C fs)) (h : R (.obj C fs) (dropM μ p)) : IceO C p .non μ R := ⟨rfl, p, fs, rfl, hp, h⟩
theorem ice_n {C : Str} {p : Addr} {fs : List (Str × D)} {R : D → Mem → Prop} (hp : μ p = none) (h : R (.obj C fs) μ) : IceO C p .non (updM μ p (.obj C fs)) R := ice_o updM_same (by rw [dropM_upd hp]; exact h)
theorem ice_n2 {C : Str} {p : Addr} {m : MO} {fs : List (Str × D)} {R : D → Mem → Prop} (hp : μ p = none) (h : R (.obj C fs) μ) : IceO C p .non (updM (updM μ p m) p (.obj C fs)) R := by
  rw [updM_upd]; exact ice_n hp h
theorem i_makeI {C : Str} {dsp : DSp} {dds : List D} {XD : DXW} {da : DA} (h : da δ μ fun ds δ1 μ1 => ∀ p, μ1 p = none → dsp (.ref p :: (ds ++ dds)) (updM μ1 p (.obj C [])) (fun d μ2 => IceO C p d μ2 fun d μ3 => Q d δ1 μ3) (fun c fs μ2 => DropX XD p c fs δ1 μ2)) : dMakeI C dsp dds XD da δ μ Q := h
theorem i_makeI0 {C : Str} {dsp : DSp} {XD : DXW} {da : DA} (h : da δ μ fun ds δ1 μ1 => ∀ p, μ1 p = none → dsp (.ref p :: ds) (updM μ1 p (.obj C [])) (fun d μ2 => IceO C p d μ2 fun d μ3 => Q d δ1 μ3) (fun c fs μ2 => DropX XD p c fs δ1 μ2)) : dMakeI C dsp [] XD da δ μ Q := by
  unfold dMakeI
  simp only [List.append_nil]
  exact h
/-- a list of the memory gets one more -/
def AppR (x d : D) (μ : Mem) (R : Mem → Prop) : Prop := ∃ p l, x = .ref p ∧ μ p = some (.lst l) ∧ l.length < sizeLine ∧ R (updM μ p (.lst (l ++ [d])))
def isL (x : D) (μ : Mem) : Prop := ∃ p l, x = .ref p ∧ μ p = some (.lst l)
theorem i_appM {da de : DE} (h : da δ μ fun x δ1 μ1 => isL x μ1 ∧ de δ1 μ1 fun d δ2 μ2 => AppR x d μ2 fun μ3 => nx δ2 μ3) : dAppM da de ⟨nx, rt, bk, ct⟩ δ μ := h
theorem is_l {p : Addr} {l : List D} {P : Prop} (hp : μ p = some (.lst l)) (h : P) : isL (.ref p) μ ∧ P := ⟨⟨p, l, rfl, hp⟩, h⟩
theorem i_raise {XD : DXW} {C : Str} (h : XD C none δ μ) : dRaise XD C ⟨nx, rt, bk, ct⟩ δ μ := h
/-- what a try does with an exception of its body -/
def TryX (EX : List Str) (CN : Str) (i : Nat) (XD : DXW) (dsu : DS) (nx : Ss → Mem → Prop) (rt : QM) (bk ct : Ss → Mem → Prop) : DXW := fun c fs δ1 μ1 => EX.contains c = true ∧ if isb c CN = true then dsu ⟨fun δ2 μ2 => nx (δ2.set i .no) μ2, rt, fun δ2 μ2 => bk (δ2.set i .no) μ2, fun δ2 μ2 => ct (δ2.set i .no) μ2⟩ (δ1.set i (.val (excD c fs))) μ1 else XD c fs δ1 μ1
theorem i_try {EX : List Str} {CN : Str} {i : Nat} {XD : DXW} {db : DXW → DS} {dsu : DS} (h : db (TryX EX CN i XD dsu nx rt bk ct) ⟨nx, rt, bk, ct⟩ δ μ) : dTry EX CN i XD db dsu ⟨nx, rt, bk, ct⟩ δ μ := h
def TryX0 (EX : List Str) (CN : Str) (XD : DXW) (dsu : DS) (nx : Ss → Mem → Prop) (rt : QM) (bk ct : Ss → Mem → Prop) : DXW := fun c fs δ1 μ1 => EX.contains c = true ∧ if isb c CN = true then dsu ⟨nx, rt, bk, ct⟩ δ1 μ1 else XD c fs δ1 μ1
theorem i_try0 {EX : List Str} {CN : Str} {XD : DXW} {db : DXW → DS} {dsu : DS} (h : db (TryX0 EX CN XD dsu nx rt bk ct) ⟨nx, rt, bk, ct⟩ δ μ) : dTry0 EX CN XD db dsu ⟨nx, rt, bk, ct⟩ δ μ := h
/-- isinstance with an own class -/
def IsC (EX CL : List Str) (CN : Str) (x : D) (μ : Mem) (R : Bool → Prop) : Prop := ∃ b, clsD EX CL CN μ x = some b ∧ R b
theorem i_isC {EX CL : List Str} {CN : Str} {de : DE} (h : de δ μ fun x δ1 μ1 => IsC EX CL CN x μ1 fun b => Q (.bl b) δ1 μ1) : dIsC EX CL CN de δ μ Q := h
theorem isC_non {EX CL : List Str} {CN : Str} {R : Bool → Prop} (h : R false) : IsC EX CL CN .non μ R := ⟨false, rfl, h⟩
theorem isC_bl {EX CL : List Str} {CN : Str} {b : Bool} {R : Bool → Prop} (h : R false) : IsC EX CL CN (.bl b) μ R := ⟨false, rfl, h⟩
theorem isC_int {EX CL : List Str} {CN : Str} {b : Int} {R : Bool → Prop} (h : R false) : IsC EX CL CN (.int b) μ R := ⟨false, rfl, h⟩
theorem isC_str {EX CL : List Str} {CN : Str} {b : Str} {R : Bool → Prop} (h : R false) : IsC EX CL CN (.str b) μ R := ⟨false, rfl, h⟩
theorem isC_tup {EX CL : List Str} {CN : Str} {b : List D} {R : Bool → Prop} (h : R false) : IsC EX CL CN (.tup b) μ R := ⟨false, rfl, h⟩
theorem isC_lst {EX CL : List Str} {CN : Str} {b : List D} {R : Bool → Prop} (h : R false) : IsC EX CL CN (.lst b) μ R := ⟨false, rfl, h⟩
theorem isC_obj {EX CL : List Str} {CN c : Str} {fs : List (Str × D)} {b : Bool} {R : Bool → Prop} (h1 : (CL.contains c && isb c CN == b) = true) (h : R b) : IsC EX CL CN (.obj c fs) μ R := by
  obtain ⟨x, y⟩ := He.ba h1
  refine ⟨b, ?_, h⟩
  show (if CL.contains c then some (isb c CN) else none) = some b
  rw [if_pos x, beq_iff_eq.mp y]
theorem i_sl {de : DE} {dl dh : DO} (h : de δ μ fun x δ1 μ1 => dl δ1 μ1 fun lo δ2 μ2 => dh δ2 μ2 fun hi δ3 μ3 => rdSl x lo hi μ3 fun d μ4 => Q d δ3 μ4) : dSl de dl dh δ μ Q := h
theorem i_noPart {R : Option Int → Ss → Mem → Prop} (h : R none δ μ) : dNoPart δ μ R := h
theorem i_part {de : DE} {R : Option Int → Ss → Mem → Prop} (h : de δ μ fun x δ1 μ1 => ∃ i, x = .int i ∧ R (some i) δ1 μ1) : dPart de δ μ R := h
open Evl (sz_of sz_lt)
/-! operators -/
theorem i_addI {i j : Int} (h : QM' (.int (i + j)) μ) : rdAdd (.int i) (.int j) μ QM' := .inl ⟨i, j, rfl, rfl, h⟩
theorem i_addS {i j : Str} (hl : i.length + j.length ≤ sizeLine) (h : QM' (.str (i ++ j)) μ) : rdAdd (.str i) (.str j) μ QM' := .inr (.inl ⟨i, j, rfl, rfl, hl, h⟩)
theorem i_addL {i j : List D} (hl : i.length + j.length ≤ sizeLine) (h : QM' (.lst (i ++ j)) μ) : rdAdd (.lst i) (.lst j) μ QM' := .inr (.inr (.inl ⟨i, j, rfl, rfl, hl, h⟩))
theorem i_addT {i j : List D} (hl : i.length + j.length ≤ sizeLine) (h : QM' (.tup (i ++ j)) μ) : rdAdd (.tup i) (.tup j) μ QM' := .inr (.inr (.inr ⟨i, j, rfl, rfl, hl, h⟩))
theorem i_sub {i j : Int} (h : QM' (.int (i - j)) μ) : rdSub (.int i) (.int j) μ QM' := ⟨i, j, rfl, rfl, h⟩
theorem i_mulI {i j : Int} (hc : CMulW i j) (h : QM' (.int (i * j)) μ) : rdMul (.int i) (.int j) μ QM' := .inl ⟨i, j, rfl, rfl, hc, h⟩
theorem i_mod {i j : Int} (hc : 0 < j) (h : QM' (.int (i % j)) μ) : rdMod (.int i) (.int j) μ QM' := ⟨i, j, rfl, rfl, hc, h⟩
theorem i_div {i j : Int} (hc : CDivW i j) (h : QM' (.int (i / j)) μ) : rdDiv (.int i) (.int j) μ QM' := ⟨i, j, rfl, rfl, hc, h⟩
theorem i_pow {i j : Int} (hc : CPow i j) (h : QM' (.int (i ^ j.toNat)) μ) : rdPow (.int i) (.int j) μ QM' := ⟨i, j, rfl, rfl, hc, h⟩
theorem i_lt {i j : Int} (h : QM' (.bl (decide (i < j))) μ) : rdLt (.int i) (.int j) μ QM' := ⟨i, j, rfl, rfl, h⟩
theorem i_le {i j : Int} (h : QM' (.bl (decide (i ≤ j))) μ) : rdLe (.int i) (.int j) μ QM' := ⟨i, j, rfl, rfl, h⟩
theorem i_gt {i j : Int} (h : QM' (.bl (decide (j < i))) μ) : rdGt (.int i) (.int j) μ QM' := ⟨i, j, rfl, rfl, h⟩
theorem i_ge {i j : Int} (h : QM' (.bl (decide (j ≤ i))) μ) : rdGe (.int i) (.int j) μ QM' := ⟨i, j, rfl, rfl, h⟩
theorem i_inS {c : Nat} {z : Str} (h : QM' (.bl (decide (c ∈ z.cps.toList))) μ) : rdInS (.str ⟨#[c]⟩) (.str z) μ QM' := ⟨c, z, rfl, rfl, h⟩
theorem i_notInS {c : Nat} {z : Str} (h : QM' (.bl (!decide (c ∈ z.cps.toList))) μ) : rdNotInS (.str ⟨#[c]⟩) (.str z) μ QM' := ⟨c, z, rfl, rfl, h⟩
theorem i_isN {d : D} (h : QM' (.bl (isNon d)) μ) : rdIsN d .non μ QM' := ⟨rfl, h⟩
theorem i_notN {d : D} (h : QM' (.bl (!isNon d)) μ) : rdNotN d .non μ QM' := ⟨rfl, h⟩
theorem i_eqI {i j : Int} (h : QM' (.bl (decide (i = j))) μ) : rdEq (.int i) (.int j) μ QM' := .inr ⟨rfl, rfl, h⟩
theorem i_neI {i j : Int} (h : QM' (.bl (!decide (i = j))) μ) : rdNe (.int i) (.int j) μ QM' := .inr ⟨rfl, rfl, h⟩
theorem i_eqS {i j : Str} (h : QM' (.bl (decide (i = j))) μ) : rdEq (.str i) (.str j) μ QM' := .inl ⟨i, j, rfl, rfl, h⟩
theorem i_neS {i j : Str} (h : QM' (.bl (!decide (i = j))) μ) : rdNe (.str i) (.str j) μ QM' := .inl ⟨i, j, rfl, rfl, h⟩
theorem i_eqB {i j : Bool} (h : QM' (.bl (i == j)) μ) : rdEq (.bl i) (.bl j) μ QM' := .inr ⟨rfl, rfl, h⟩
theorem i_neB {i j : Bool} (h : QM' (.bl (!(i == j))) μ) : rdNe (.bl i) (.bl j) μ QM' := .inr ⟨rfl, rfl, h⟩
theorem i_eq {x y : D} (h1 : shD x = true) (h2 : shD y = true) (h : QM' (.bl (eqD x y)) μ) : rdEq x y μ QM' := .inr ⟨by rw [drf_sh h1]; exact h1, by rw [drf_sh h2]; exact h2, by rw [drf_sh h1, drf_sh h2]; exact h⟩
theorem i_ne {x y : D} (h1 : shD x = true) (h2 : shD y = true) (h : QM' (.bl (!eqD x y)) μ) : rdNe x y μ QM' := .inr ⟨by rw [drf_sh h1]; exact h1, by rw [drf_sh h2]; exact h2, by rw [drf_sh h1, drf_sh h2]; exact h⟩
theorem i_ixL {l : List D} {i : Int} {d : D} (e : atI l i = some d) (h : QM' d μ) : rdIx (.lst l) (.int i) μ QM' := ⟨i, rfl, .inl ⟨l, d, rfl, e, h⟩⟩
theorem i_ixC {l : List D} {i : Int} {d : D} (e : atI l i = some d) (h : QM' d μ) : rdIx (.scr l) (.int i) μ QM' := ⟨i, rfl, .inl ⟨l, d, rfl, e, h⟩⟩
theorem i_ixT {l : List D} {i : Int} {d : D} (e : atI l i = some d) (h : QM' d μ) : rdIx (.tup l) (.int i) μ QM' := ⟨i, rfl, .inl ⟨l, d, rfl, e, h⟩⟩
theorem i_ixS {z : Str} {i : Int} {c : Nat} (hz : z.length ≤ sizeLine) (e : atI z.cps.toList i = some c) (h : QM' (.str ⟨#[c]⟩) μ) : rdIx (.str z) (.int i) μ QM' := ⟨i, rfl, .inr ⟨z, c, rfl, hz, e, h⟩⟩
theorem seqOf_ref {p : Addr} {l : List D} (h : μ p = some (.lst l)) : seqOf μ (.ref p) = some l := by unfold seqOf; dsimp only; rw [h]
theorem i_ixR {p : Addr} {l : List D} {i : Int} {d : D} (hp : μ p = some (.lst l)) (e : atI l i = some d) (h : QM' d μ) : rdIx (.ref p) (.int i) μ QM' := ⟨i, rfl, .inl ⟨l, d, seqOf_ref hp, e, h⟩⟩
theorem i_slS {z : Str} {lo hi : Option Int} (hz : z.length ≤ sizeLine) (h : QM' (.str (cutS z lo hi)) μ) : rdSl (.str z) lo hi μ QM' := .inl ⟨z, rfl, hz, h⟩
theorem i_slT {l : List D} {lo hi : Option Int} (h : QM' (.tup (cutD l lo hi)) μ) : rdSl (.tup l) lo hi μ QM' := .inr (.inl ⟨l, rfl, h⟩)
theorem i_slL {l : List D} {lo hi : Option Int} (h : QM' (.lst (cutD l lo hi)) μ) : rdSl (.lst l) lo hi μ QM' := .inr (.inr ⟨l, (fun _ z => nomatch z), rfl, h⟩)
theorem i_slC {l : List D} {lo hi : Option Int} (h : QM' (.lst (cutD l lo hi)) μ) : rdSl (.scr l) lo hi μ QM' := .inr (.inr ⟨l, (fun _ z => nomatch z), rfl, h⟩)
theorem i_slR {p : Addr} {l : List D} {lo hi : Option Int} (hp : μ p = some (.lst l)) (h : QM' (.lst (cutD l lo hi)) μ) : rdSl (.ref p) lo hi μ QM' := .inr (.inr ⟨l, (fun _ z => nomatch z), seqOf_ref hp, h⟩)
theorem i_lenL {l : List D} (h : QM' (.int l.length) μ) : rdLen [.lst l] μ QM' := ⟨_, rfl, .inl ⟨l, rfl, h⟩⟩
theorem i_lenC {l : List D} (h : QM' (.int l.length) μ) : rdLen [.scr l] μ QM' := ⟨_, rfl, .inl ⟨l, rfl, h⟩⟩
theorem i_lenT {l : List D} (h : QM' (.int l.length) μ) : rdLen [.tup l] μ QM' := ⟨_, rfl, .inl ⟨l, rfl, h⟩⟩
theorem i_lenS {z : Str} (hz : z.length ≤ sizeLine) (h : QM' (.int z.length) μ) : rdLen [.str z] μ QM' := ⟨_, rfl, .inr ⟨z, rfl, hz, h⟩⟩
theorem i_lenR {p : Addr} {l : List D} (hp : μ p = some (.lst l)) (h : QM' (.int l.length) μ) : rdLen [.ref p] μ QM' := ⟨_, rfl, .inl ⟨l, seqOf_ref hp, h⟩⟩
theorem i_intI {i : Int} (h : QM' (.int i) μ) : rdInt [.int i] μ QM' := .inl ⟨i, rfl, h⟩
theorem i_intB {b : Bool} (h : QM' (.int (if b then 1 else 0)) μ) : rdInt [.bl b] μ QM' := .inr ⟨b, rfl, h⟩
theorem i_abs {i : Int} (h : QM' (.int (if i < 0 then -i else i)) μ) : rdAbs [.int i] μ QM' := ⟨i, rfl, h⟩
theorem i_maxL {d : D} {ns : List Int} (hl : lstOf μ d = some (ns.map .int)) (hn : 0 < ns.length) (h : ∀ M, M ∈ ns → (∀ b ∈ ns, b ≤ M) → QM' (.int M) μ) : rdMaxL [d] μ QM' := ⟨d, ns, rfl, hl, hn, h⟩
theorem i_minL {d : D} {ns : List Int} (hl : lstOf μ d = some (ns.map .int)) (hn : 0 < ns.length) (h : ∀ M, M ∈ ns → (∀ b ∈ ns, M ≤ b) → QM' (.int M) μ) : rdMinL [d] μ QM' := ⟨d, ns, rfl, hl, hn, h⟩
theorem i_dicM (h : ∀ p, μ p = none → Q (.ref p) δ (updM μ p (.dct []))) : dDicM δ μ Q := h
/-- an entry of a dict -/
def GetK (x y : D) (μ : Mem) (R : D → Prop) : Prop := ∃ l k d, dicOf μ x = some l ∧ keyD y = some k ∧ valD l k = some d ∧ R d
theorem i_getK {da db : DE} (h : da δ μ fun x δ1 μ1 => db δ1 μ1 fun y δ2 μ2 => GetK x y μ2 fun d => Q d δ2 μ2) : dGetK da db δ μ Q := h
def PutK (x y d : D) (μ : Mem) (R : Mem → Prop) : Prop := ∃ p l k, x = .ref p ∧ μ p = some (.dct l) ∧ keyD y = some k ∧ l.length < sizeLine ∧ R (updM μ p (.dct (putKD l k d)))
theorem i_putK {da db de : DE} (h : de δ μ fun d δ1 μ1 => da δ1 μ1 fun x δ2 μ2 => db δ2 μ2 fun y δ3 μ3 => PutK x y d μ3 fun μ4 => nx δ3 μ4) : dPutK da db de ⟨nx, rt, bk, ct⟩ δ μ := h
theorem i_max2 {i j : Int} (h : QM' (.int (max i j)) μ) : rdMax2 [.int i, .int j] μ QM' := ⟨i, j, rfl, h⟩
theorem i_min2 {i j : Int} (h : QM' (.int (min i j)) μ) : rdMin2 [.int i, .int j] μ QM' := ⟨i, j, rfl, h⟩
theorem i_all {bs : List Bool} (h : QM' (.bl (bs.all id)) μ) : rdAll [.lst (bs.map .bl)] μ QM' := ⟨bs, rfl, h⟩
theorem i_listL {l : List D} (h : QM' (.lst l) μ) : rdList [.lst l] μ QM' := ⟨_, l, rfl, rfl, h⟩
theorem i_listC {l : List D} (h : QM' (.lst l) μ) : rdList [.scr l] μ QM' := ⟨_, l, rfl, rfl, h⟩
theorem i_listT {l : List D} (h : QM' (.lst l) μ) : rdList [.tup l] μ QM' := ⟨_, l, rfl, rfl, h⟩
theorem i_listR {p : Addr} {l : List D} (hp : μ p = some (.lst l)) (h : QM' (.lst l) μ) : rdList [.ref p] μ QM' := ⟨_, l, rfl, seqOf_ref hp, h⟩
theorem i_tupL {l : List D} (h : QM' (.tup l) μ) : rdTup [.lst l] μ QM' := ⟨_, l, rfl, rfl, h⟩
theorem i_tupC {l : List D} (h : QM' (.tup l) μ) : rdTup [.scr l] μ QM' := ⟨_, l, rfl, rfl, h⟩
theorem i_tupT {l : List D} (h : QM' (.tup l) μ) : rdTup [.tup l] μ QM' := ⟨_, l, rfl, rfl, h⟩
/-- a product of numbers below 2 ^ 200 -/
theorem cm2 {i j : Int} (h1 : -1606938044258990275541962092341162602522202993782792835301376 < i) (h2 : i < 1606938044258990275541962092341162602522202993782792835301376) (h3 : -1606938044258990275541962092341162602522202993782792835301376 < j) (h4 : j < 1606938044258990275541962092341162602522202993782792835301376) : CMulW i j := wide_mul (a := 200) (b := 200) (by omega) (by omega) (by decide) (by decide) (by decide)
theorem cd2 {i j : Int} (h1 : 0 < j) (h2 : j < 1606938044258990275541962092341162602522202993782792835301376) : CDivW i j := wide_div (b := 200) h1 (by omega) (by decide) (by decide)
theorem cp2 {i j : Int} (h1 : 0 ≤ j) (h2 : j ≤ 1000) (h3 : -9223372036854775808 < i) (h4 : i < 9223372036854775808) : CPow i j := ⟨h1, by omega, by omega⟩
/-! tests -/
theorem ite_d {c : Prop} [Decidable c] {A B : Prop} (h1 : c → A) (h2 : ¬ c → B) : if decide c = true then A else B := by
  by_cases h : c
  · rw [if_pos (decide_eq_true h)]; exact h1 h
  · rw [if_neg (by simp [h])]; exact h2 h
theorem ite_nd {c : Prop} [Decidable c] {A B : Prop} (h1 : ¬ c → A) (h2 : c → B) : if (!decide c) = true then A else B := by
  by_cases h : c
  · rw [if_neg (by simp [h])]; exact h2 h
  · rw [if_pos (by simp [h])]; exact h1 h
theorem ite_b {b : Bool} {A B : Prop} (h1 : b = true → A) (h2 : b = false → B) : if b = true then A else B := by
  cases b with
  | true => rw [if_pos rfl]; exact h1 rfl
  | false => rw [if_neg Bool.false_ne_true]; exact h2 rfl
theorem ite_nb {b : Bool} {A B : Prop} (h1 : b = false → A) (h2 : b = true → B) : if (!b) = true then A else B := by
  cases b with
  | true => rw [if_neg (by simp)]; exact h2 rfl
  | false => rw [if_pos (by simp)]; exact h1 rfl
theorem ite_t {b : Bool} {A B : Prop} (hb : b = true) (h : A) : if b = true then A else B := by rw [if_pos hb]; exact h
theorem ite_f {b : Bool} {A B : Prop} (hb : b = false) (h : B) : if b = true then A else B := by rw [hb, if_neg Bool.false_ne_true]; exact h
theorem ite_tt {A B : Prop} (h : A) : if true = true then A else B := by rw [if_pos rfl]; exact h
theorem ite_ff {A B : Prop} (h : B) : if false = true then A else B := by rw [if_neg Bool.false_ne_true]; exact h
theorem ite_nff {A B : Prop} (h : A) : if (!false) = true then A else B := by rw [if_pos (by simp)]; exact h
theorem ite_ntt {A B : Prop} (h : B) : if (!true) = true then A else B := by rw [if_neg (by simp)]; exact h
theorem i_neg {da : DE} (h : da δ μ fun x δ1 μ1 => ∃ i, x = .int i ∧ Q (.int (-i)) δ1 μ1) : dNeg da δ μ Q := h
theorem i_inO {neg : Bool} {da : DE} {i : Nat} (h : da δ μ fun x δ1 μ1 => ∃ l, δ1[i]? = some (.own (.lst l)) ∧ flatD x = true ∧ l.all flatD = true ∧ Q (.bl (if neg then !inD x l else inD x l)) δ1 μ1) : dInO neg da i δ μ Q := h
theorem i_inL {x : D} {l : List D} (h1 : flatD x = true) (h2 : l.all flatD = true) (h : QM' (.bl (inD x l)) μ) : rdIn false x (.lst l) μ QM' := ⟨l, rfl, h1, h2, h⟩
theorem i_notInL {x : D} {l : List D} (h1 : flatD x = true) (h2 : l.all flatD = true) (h : QM' (.bl (!inD x l)) μ) : rdIn true x (.lst l) μ QM' := ⟨l, rfl, h1, h2, h⟩
theorem i_BMs {r : D → List D → Mem → QM → Prop} {do_ : DE} {da : DA} (h : do_ δ μ fun x δ1 μ1 => isStr x ∧ da δ1 μ1 fun xs δ2 μ2 => r x xs μ2 fun d μ3 => Q d δ2 μ3) : dBMs r do_ da δ μ Q := h
theorem i_isStr {z : Str} {P : Prop} (h : P) : isStr (.str z) ∧ P := ⟨⟨z, rfl⟩, h⟩
theorem i_isi {x : D} {T t : String} {b : Bool} (ht : tyD x = some t) (hk : kitB t T = some b) (h : QM' (.bl b) μ) : rdIsi [x, .ty T] μ QM' := ⟨x, T, t, b, rfl, ht, hk, h⟩
theorem kB_bb : kitB "bool" "bool" = some true := by decide +kernel
theorem kB_bi : kitB "bool" "int" = some true := by decide +kernel
theorem kB_ib : kitB "int" "bool" = some false := by decide +kernel
theorem kB_ii : kitB "int" "int" = some true := by decide +kernel
theorem kB_ss : kitB "str" "str" = some true := by decide +kernel
theorem kB_tt : kitB "tuple" "tuple" = some true := by decide +kernel
theorem kB_ll : kitB "list" "list" = some true := by decide +kernel
theorem i_isBB {b : Bool} (h : QM' (.bl true) μ) : rdIsi [.bl b, .ty "bool"] μ QM' := i_isi rfl kB_bb h
theorem i_isBI {b : Bool} (h : QM' (.bl true) μ) : rdIsi [.bl b, .ty "int"] μ QM' := i_isi rfl kB_bi h
theorem i_isIB {b : Int} (h : QM' (.bl false) μ) : rdIsi [.int b, .ty "bool"] μ QM' := i_isi rfl kB_ib h
theorem i_isII {b : Int} (h : QM' (.bl true) μ) : rdIsi [.int b, .ty "int"] μ QM' := i_isi rfl kB_ii h
theorem i_isSS {b : Str} (h : QM' (.bl true) μ) : rdIsi [.str b, .ty "str"] μ QM' := i_isi rfl kB_ss h
theorem i_isTT {b : List D} (h : QM' (.bl true) μ) : rdIsi [.tup b, .ty "tuple"] μ QM' := i_isi rfl kB_tt h
theorem i_isLL {b : List D} (h : QM' (.bl true) μ) : rdIsi [.lst b, .ty "list"] μ QM' := i_isi rfl kB_ll h
theorem i_setIxM {da db de : DE} (h : de δ μ fun d δ1 μ1 => da δ1 μ1 fun x δ2 μ2 => db δ2 μ2 fun y δ3 μ3 => ∃ p l k j, x = .ref p ∧ μ3 p = some (.lst l) ∧ y = .int k ∧ ixN l.length k = some j ∧ nx δ3 (updM μ3 p (.lst (l.set j d)))) : dSetIxM da db de ⟨nx, rt, bk, ct⟩ δ μ := h
def SlO (i : Nat) (lo hi : Option Int) (δ : Ss) (μ : Mem) (Q : QE) : Prop := ∃ l, δ[i]? = some (.own (.lst l)) ∧ Q (.lst (cutD l lo hi)) δ μ
def IxO (i : Nat) (y : D) (δ : Ss) (μ : Mem) (Q : QE) : Prop := ∃ l j d, δ[i]? = some (.own (.lst l)) ∧ y = .int j ∧ atI l j = some d ∧ Q d δ μ
def ParK (nx : Ss → Mem → Prop) (i j : Nat) (ds : List D) (δ : Ss) (μ : Mem) : Prop := ∃ x y, ds = [x, y] ∧ nx ((δ.set i (.val x)).set j (.val y)) μ
theorem i_par {i j : Nat} {da : DA} (h : da δ μ fun ds δ1 μ1 => ParK nx i j ds δ1 μ1) : dPar i j da ⟨nx, rt, bk, ct⟩ δ μ := h
theorem i_parK {i j : Nat} {x y : D} (h : nxSet (nxSet nx j (.val y)) i (.val x) δ μ) : ParK nx i j [x, y] δ μ := ⟨x, y, rfl, h⟩
def ParK3 (nx : Ss → Mem → Prop) (i j k : Nat) (ds : List D) (δ : Ss) (μ : Mem) : Prop := ∃ x y z, ds = [x, y, z] ∧ nx (((δ.set i (.val x)).set j (.val y)).set k (.val z)) μ
theorem i_par3 {i j k : Nat} {da : DA} (h : da δ μ fun ds δ1 μ1 => ParK3 nx i j k ds δ1 μ1) : dPar3 i j k da ⟨nx, rt, bk, ct⟩ δ μ := h
theorem i_parK3 {i j k : Nat} {x y z : D} (h : nxSet (nxSet (nxSet nx k (.val z)) j (.val y)) i (.val x) δ μ) : ParK3 nx i j k [x, y, z] δ μ := ⟨x, y, z, rfl, h⟩
theorem i_parF {i j : Nat} {df : DF} {db : DE} (h : df δ μ fun m δ1 μ1 => db δ1 μ1 fun y δ2 μ2 => nxSet (nxSet nx j (.val y)) i (.own m) δ2 μ2) : dParF i j df db ⟨nx, rt, bk, ct⟩ δ μ := h
theorem le_s {s : SL} {a b : Ss} : Le (s :: a) (s :: b) ↔ Le a b := by cases s <;> simp [Le]
theorem le_refl : ∀ a : Ss, Le a a
  | [] => trivial
  | s :: a => le_s.mpr (le_refl a)
def ForG (ds : List D) (G : Mem → Prop) (dg : DG) (db : DS) (nx : Ss → Mem → Prop) (rt : QM) (δ1 : Ss) (μ1 : Mem) : Prop := ∃ W : Nat → Ss → Mem → Prop, Wn (W 0) δ1 μ1 ∧ (∀ i δ μ, i ≤ ds.length → W i δ μ → G μ) ∧
  (∀ i d δ μ, ds[i]? = some d → W i δ μ → dg d δ μ fun δ2 μ2 => db ⟨Wn (W (i + 1)), rt, nx, Wn (W (i + 1))⟩ δ2 μ2) ∧ (∀ δ μ, W ds.length δ μ → nx δ μ)
theorem i_for {di : DI} {dg : DG} {db : DS} (h : di δ μ fun ds G δ1 μ1 => ForG ds G dg db nx rt δ1 μ1) : dFor di dg db ⟨nx, rt, bk, ct⟩ δ μ := h
/-- the loop by its word; W: the turn, the slots, the memory -/
theorem by_word {ds : List D} {dg : DG} {db : DS} (W : Nat → Ss → Mem → Prop) (h0 : W 0 δ μ) (hs : ∀ i d δ μ, i < ds.length → ds[i]? = some d → W i δ μ → dg d δ μ fun δ2 μ2 => db ⟨Wn (W (i + 1)), rt, nx, Wn (W (i + 1))⟩ δ2 μ2) (hd : ∀ δ μ, W ds.length δ μ → nx δ μ) :
    ForG ds (fun _ => True) dg db nx rt δ μ :=
  ⟨W, wn h0 (le_refl δ), fun _ _ _ _ _ => trivial, fun i d δ μ e w => hs i d δ μ (List.getElem?_eq_some_iff.mp e).1 e w, hd⟩
def CellW (x : D) (μ : Mem) (R : List D → (Mem → Prop) → Prop) : Prop := ∃ p l, x = .ref p ∧ μ p = some (.lst l) ∧ R l (fun μ => μ p = some (.lst l))
theorem i_icell {de : DE} {R : List D → (Mem → Prop) → Ss → Mem → Prop} (h : de δ μ fun d δ1 μ1 => CellW d μ1 fun l G => R l G δ1 μ1) : diCell de δ μ R := h
theorem i_excell {p : Addr} {l : List D} {R : List D → (Mem → Prop) → Prop} (hp : μ p = some (.lst l)) (h : R l (fun μ => μ p = some (.lst l))) : CellW (.ref p) μ R := ⟨p, l, rfl, hp, h⟩
theorem i_iseq {de : DE} {R : List D → (Mem → Prop) → Ss → Mem → Prop} (h : de δ μ fun d δ1 μ1 => ∃ l, (d = .lst l ∨ d = .scr l) ∧ R l (fun _ => True) δ1 μ1) : diSeq de δ μ R := h
theorem i_itup {de : DE} {R : List D → (Mem → Prop) → Ss → Mem → Prop} (h : de δ μ fun d δ1 μ1 => ∃ l, d = .tup l ∧ R l (fun _ => True) δ1 μ1) : diTup de δ μ R := h
theorem i_exlst {a : List D} {P : List D → Prop} (h : P a) : ∃ l, (D.lst a = .lst l ∨ D.lst a = .scr l) ∧ P l := ⟨a, .inl rfl, h⟩
theorem i_exscr {a : List D} {P : List D → Prop} (h : P a) : ∃ l, (D.scr a = .lst l ∨ D.scr a = .scr l) ∧ P l := ⟨a, .inr rfl, h⟩
theorem i_extup {a : List D} {P : List D → Prop} (h : P a) : ∃ l, D.tup a = .tup l ∧ P l := ⟨a, rfl, h⟩
theorem i_istr {de : DE} {R : List D → (Mem → Prop) → Ss → Mem → Prop} (h : de δ μ fun d δ1 μ1 => ∃ z, d = .str z ∧ R (signs z) (fun _ => True) δ1 μ1) : diStr de δ μ R := h
theorem i_rng1 {da : DA} {R : List D → (Mem → Prop) → Ss → Mem → Prop} (h : da δ μ fun xs δ1 μ1 => ∃ j : Int, xs = [.int j] ∧ -(2 ^ 62) ≤ j ∧ j < 2 ^ 62 ∧ R (rangeD 0 j.toNat) (fun _ => True) δ1 μ1) : diRng1 da δ μ R := h
theorem i_rng2 {da : DA} {R : List D → (Mem → Prop) → Ss → Mem → Prop} (h : da δ μ fun xs δ1 μ1 => ∃ i j : Int, xs = [.int i, .int j] ∧ (-(2 ^ 62) ≤ i ∧ i < 2 ^ 62 ∧ -(2 ^ 62) ≤ j ∧ j < 2 ^ 62) ∧ R (rangeD i (j - i).toNat) (fun _ => True) δ1 μ1) : diRng2 da δ μ R := h
theorem i_exr1 {j : Int} {P : Int → Prop} (h1 : -(2 ^ 62) ≤ j) (h2 : j < 2 ^ 62) (h : P j) : ∃ k : Int, [D.int j] = [.int k] ∧ -(2 ^ 62) ≤ k ∧ k < 2 ^ 62 ∧ P k := ⟨j, rfl, h1, h2, h⟩
def LcG (ds : List D) (G : Mem → Prop) (dg : DG) (dt : DT) (de : DE) (vs : List Nat) (R : List D → Ss → Mem → Prop) (δ1 : Ss) (μ1 : Mem) : Prop := noOwn δ1 vs = true ∧ ∃ W : Nat → List D → Mem → Prop, W 0 [] μ1 ∧ (∀ i acc μ, i ≤ ds.length → W i acc μ → G μ) ∧
  (∀ i d acc μ, ds[i]? = some d → W i acc μ → dg d (wipeD δ1 vs) μ fun δ2 μ2 => wipeD δ2 vs = wipeD δ1 vs ∧ dt δ2 μ2 fun b δ3 μ3 => δ3 = δ2 ∧
    if b = true then de δ2 μ3 fun y δ4 μ4 => δ4 = δ2 ∧ acc.length < sizeLine ∧ W (i + 1) (acc ++ [y]) μ4 else W (i + 1) acc μ3) ∧ (∀ acc μ, W ds.length acc μ → R acc δ1 μ)
theorem i_lc {di : DI} {dg : DG} {dt : DT} {de : DE} {vs : List Nat} {R : MO → Ss → Mem → Prop} (h : di δ μ fun ds G δ1 μ1 => LcG ds G dg dt de vs (fun acc δ μ => R (.lst acc) δ μ) δ1 μ1) : fLc di dg dt de vs δ μ R := h
theorem i_iceLc {di : DI} {dg : DG} {dt : DT} {de : DE} {vs : List Nat} (h : di δ μ fun ds G δ1 μ1 => LcG ds G dg dt de vs (fun acc δ μ => Q (.lst acc) δ μ) δ1 μ1) : dIce (fLc di dg dt de vs) δ μ Q := h
/-- a comprehension by its word -/
theorem by_lc {ds : List D} {dg : DG} {dt : DT} {de : DE} {vs : List Nat} {R : List D → Ss → Mem → Prop} (W : Nat → List D → Mem → Prop) (hn : noOwn δ vs = true) (h0 : W 0 [] μ)
  (hs : ∀ i d acc μ, i < ds.length → ds[i]? = some d → W i acc μ → dg d (wipeD δ vs) μ fun δ2 μ2 => wipeD δ2 vs = wipeD δ vs ∧ dt δ2 μ2 fun b δ3 μ3 => δ3 = δ2 ∧
    if b = true then de δ2 μ3 fun y δ4 μ4 => δ4 = δ2 ∧ acc.length < sizeLine ∧ W (i + 1) (acc ++ [y]) μ4 else W (i + 1) acc μ3) (hd : ∀ acc μ, W ds.length acc μ → R acc δ μ) :
  LcG ds (fun _ => True) dg dt de vs R δ μ :=
  ⟨hn, W, h0, fun _ _ _ _ _ => trivial, fun i d acc μ e w => hs i d acc μ (List.getElem?_eq_some_iff.mp e).1 e w, hd⟩
theorem i_yes {R : Bool → Ss → Mem → Prop} (h : R true δ μ) : dYes δ μ R := h
theorem i_ss {a b : Ss} {P : Prop} (e : a = b) (h : P) : a = b ∧ P := ⟨e, h⟩
theorem i_rfl {a : Ss} {P : Prop} (h : P) : a = a ∧ P := ⟨rfl, h⟩
theorem i_sz {l n : Nat} {P : Prop} (e : Nat.ble l n = true) (h : P) : l ≤ n ∧ P := ⟨Nat.le_of_ble_eq_true e, h⟩
/-! specs by the number of arguments -/
def Sp1 (P : D → Mem → QM → DX → Prop) : DSp := fun ds μ Q E => ∃ a, ds = [a] ∧ P a μ Q E
def Sp2 (P : D → D → Mem → QM → DX → Prop) : DSp := fun ds μ Q E => ∃ a b, ds = [a, b] ∧ P a b μ Q E
def Sp3 (P : D → D → D → Mem → QM → DX → Prop) : DSp := fun ds μ Q E => ∃ a b c, ds = [a, b, c] ∧ P a b c μ Q E
def Sp4 (P : D → D → D → D → Mem → QM → DX → Prop) : DSp := fun ds μ Q E => ∃ a b c d, ds = [a, b, c, d] ∧ P a b c d μ Q E
/-! slots by place -/
theorem v_0 {d : D} {l : Ss} (h : Q d (.val d :: l) μ) : dVar 0 (.val d :: l) μ Q := ⟨d, rfl, h⟩
theorem v_1 {s0 : SL} {d : D} {l : Ss} (h : Q d (s0 :: .val d :: l) μ) : dVar 1 (s0 :: .val d :: l) μ Q := ⟨d, rfl, h⟩
theorem v_2 {s0 s1 : SL} {d : D} {l : Ss} (h : Q d (s0 :: s1 :: .val d :: l) μ) : dVar 2 (s0 :: s1 :: .val d :: l) μ Q := ⟨d, rfl, h⟩
theorem v_3 {s0 s1 s2 : SL} {d : D} {l : Ss} (h : Q d (s0 :: s1 :: s2 :: .val d :: l) μ) : dVar 3 (s0 :: s1 :: s2 :: .val d :: l) μ Q := ⟨d, rfl, h⟩
theorem v_4 {s0 s1 s2 s3 : SL} {d : D} {l : Ss} (h : Q d (s0 :: s1 :: s2 :: s3 :: .val d :: l) μ) : dVar 4 (s0 :: s1 :: s2 :: s3 :: .val d :: l) μ Q := ⟨d, rfl, h⟩
theorem v_5 {s0 s1 s2 s3 s4 : SL} {d : D} {l : Ss} (h : Q d (s0 :: s1 :: s2 :: s3 :: s4 :: .val d :: l) μ) : dVar 5 (s0 :: s1 :: s2 :: s3 :: s4 :: .val d :: l) μ Q := ⟨d, rfl, h⟩
theorem v_6 {s0 s1 s2 s3 s4 s5 : SL} {d : D} {l : Ss} (h : Q d (s0 :: s1 :: s2 :: s3 :: s4 :: s5 :: .val d :: l) μ) : dVar 6 (s0 :: s1 :: s2 :: s3 :: s4 :: s5 :: .val d :: l) μ Q := ⟨d, rfl, h⟩
theorem v_7 {s0 s1 s2 s3 s4 s5 s6 : SL} {d : D} {l : Ss} (h : Q d (s0 :: s1 :: s2 :: s3 :: s4 :: s5 :: s6 :: .val d :: l) μ) : dVar 7 (s0 :: s1 :: s2 :: s3 :: s4 :: s5 :: s6 :: .val d :: l) μ Q := ⟨d, rfl, h⟩
theorem v_8 {s0 s1 s2 s3 s4 s5 s6 s7 : SL} {d : D} {l : Ss} (h : Q d (s0 :: s1 :: s2 :: s3 :: s4 :: s5 :: s6 :: s7 :: .val d :: l) μ) : dVar 8 (s0 :: s1 :: s2 :: s3 :: s4 :: s5 :: s6 :: s7 :: .val d :: l) μ Q := ⟨d, rfl, h⟩
theorem v_9 {s0 s1 s2 s3 s4 s5 s6 s7 s8 : SL} {d : D} {l : Ss} (h : Q d (s0 :: s1 :: s2 :: s3 :: s4 :: s5 :: s6 :: s7 :: s8 :: .val d :: l) μ) : dVar 9 (s0 :: s1 :: s2 :: s3 :: s4 :: s5 :: s6 :: s7 :: s8 :: .val d :: l) μ Q := ⟨d, rfl, h⟩
theorem v_10 {s0 s1 s2 s3 s4 s5 s6 s7 s8 s9 : SL} {d : D} {l : Ss} (h : Q d (s0 :: s1 :: s2 :: s3 :: s4 :: s5 :: s6 :: s7 :: s8 :: s9 :: .val d :: l) μ) : dVar 10 (s0 :: s1 :: s2 :: s3 :: s4 :: s5 :: s6 :: s7 :: s8 :: s9 :: .val d :: l) μ Q := ⟨d, rfl, h⟩
theorem v_11 {s0 s1 s2 s3 s4 s5 s6 s7 s8 s9 s10 : SL} {d : D} {l : Ss} (h : Q d (s0 :: s1 :: s2 :: s3 :: s4 :: s5 :: s6 :: s7 :: s8 :: s9 :: s10 :: .val d :: l) μ) : dVar 11 (s0 :: s1 :: s2 :: s3 :: s4 :: s5 :: s6 :: s7 :: s8 :: s9 :: s10 :: .val d :: l) μ Q := ⟨d, rfl, h⟩
theorem vf_0 {a : List D} {l : Ss} (h : Q (.lst a) (.val (.lst a) :: l) μ) : dVarF 0 (.own (.lst a) :: l) μ Q := ⟨.lst a, rfl, h⟩
theorem vf_1 {s0 : SL} {a : List D} {l : Ss} (h : Q (.lst a) (s0 :: .val (.lst a) :: l) μ) : dVarF 1 (s0 :: .own (.lst a) :: l) μ Q := ⟨.lst a, rfl, h⟩
theorem vf_2 {s0 s1 : SL} {a : List D} {l : Ss} (h : Q (.lst a) (s0 :: s1 :: .val (.lst a) :: l) μ) : dVarF 2 (s0 :: s1 :: .own (.lst a) :: l) μ Q := ⟨.lst a, rfl, h⟩
theorem vf_3 {s0 s1 s2 : SL} {a : List D} {l : Ss} (h : Q (.lst a) (s0 :: s1 :: s2 :: .val (.lst a) :: l) μ) : dVarF 3 (s0 :: s1 :: s2 :: .own (.lst a) :: l) μ Q := ⟨.lst a, rfl, h⟩
theorem vf_4 {s0 s1 s2 s3 : SL} {a : List D} {l : Ss} (h : Q (.lst a) (s0 :: s1 :: s2 :: s3 :: .val (.lst a) :: l) μ) : dVarF 4 (s0 :: s1 :: s2 :: s3 :: .own (.lst a) :: l) μ Q := ⟨.lst a, rfl, h⟩
theorem vf_5 {s0 s1 s2 s3 s4 : SL} {a : List D} {l : Ss} (h : Q (.lst a) (s0 :: s1 :: s2 :: s3 :: s4 :: .val (.lst a) :: l) μ) : dVarF 5 (s0 :: s1 :: s2 :: s3 :: s4 :: .own (.lst a) :: l) μ Q := ⟨.lst a, rfl, h⟩
theorem vf_6 {s0 s1 s2 s3 s4 s5 : SL} {a : List D} {l : Ss} (h : Q (.lst a) (s0 :: s1 :: s2 :: s3 :: s4 :: s5 :: .val (.lst a) :: l) μ) : dVarF 6 (s0 :: s1 :: s2 :: s3 :: s4 :: s5 :: .own (.lst a) :: l) μ Q := ⟨.lst a, rfl, h⟩
theorem vf_7 {s0 s1 s2 s3 s4 s5 s6 : SL} {a : List D} {l : Ss} (h : Q (.lst a) (s0 :: s1 :: s2 :: s3 :: s4 :: s5 :: s6 :: .val (.lst a) :: l) μ) : dVarF 7 (s0 :: s1 :: s2 :: s3 :: s4 :: s5 :: s6 :: .own (.lst a) :: l) μ Q := ⟨.lst a, rfl, h⟩
theorem vf_8 {s0 s1 s2 s3 s4 s5 s6 s7 : SL} {a : List D} {l : Ss} (h : Q (.lst a) (s0 :: s1 :: s2 :: s3 :: s4 :: s5 :: s6 :: s7 :: .val (.lst a) :: l) μ) : dVarF 8 (s0 :: s1 :: s2 :: s3 :: s4 :: s5 :: s6 :: s7 :: .own (.lst a) :: l) μ Q := ⟨.lst a, rfl, h⟩
theorem vf_9 {s0 s1 s2 s3 s4 s5 s6 s7 s8 : SL} {a : List D} {l : Ss} (h : Q (.lst a) (s0 :: s1 :: s2 :: s3 :: s4 :: s5 :: s6 :: s7 :: s8 :: .val (.lst a) :: l) μ) : dVarF 9 (s0 :: s1 :: s2 :: s3 :: s4 :: s5 :: s6 :: s7 :: s8 :: .own (.lst a) :: l) μ Q := ⟨.lst a, rfl, h⟩
theorem vf_10 {s0 s1 s2 s3 s4 s5 s6 s7 s8 s9 : SL} {a : List D} {l : Ss} (h : Q (.lst a) (s0 :: s1 :: s2 :: s3 :: s4 :: s5 :: s6 :: s7 :: s8 :: s9 :: .val (.lst a) :: l) μ) : dVarF 10 (s0 :: s1 :: s2 :: s3 :: s4 :: s5 :: s6 :: s7 :: s8 :: s9 :: .own (.lst a) :: l) μ Q := ⟨.lst a, rfl, h⟩
theorem vf_11 {s0 s1 s2 s3 s4 s5 s6 s7 s8 s9 s10 : SL} {a : List D} {l : Ss} (h : Q (.lst a) (s0 :: s1 :: s2 :: s3 :: s4 :: s5 :: s6 :: s7 :: s8 :: s9 :: s10 :: .val (.lst a) :: l) μ) : dVarF 11 (s0 :: s1 :: s2 :: s3 :: s4 :: s5 :: s6 :: s7 :: s8 :: s9 :: s10 :: .own (.lst a) :: l) μ Q := ⟨.lst a, rfl, h⟩
theorem vd_0 {a : List (Key × D)} {l : Ss} (h : Q (.dct a) (.val (.dct a) :: l) μ) : dVarF 0 (.own (.dct a) :: l) μ Q := ⟨.dct a, rfl, h⟩
theorem vd_1 {s0 : SL} {a : List (Key × D)} {l : Ss} (h : Q (.dct a) (s0 :: .val (.dct a) :: l) μ) : dVarF 1 (s0 :: .own (.dct a) :: l) μ Q := ⟨.dct a, rfl, h⟩
theorem vd_2 {s0 s1 : SL} {a : List (Key × D)} {l : Ss} (h : Q (.dct a) (s0 :: s1 :: .val (.dct a) :: l) μ) : dVarF 2 (s0 :: s1 :: .own (.dct a) :: l) μ Q := ⟨.dct a, rfl, h⟩
theorem vd_3 {s0 s1 s2 : SL} {a : List (Key × D)} {l : Ss} (h : Q (.dct a) (s0 :: s1 :: s2 :: .val (.dct a) :: l) μ) : dVarF 3 (s0 :: s1 :: s2 :: .own (.dct a) :: l) μ Q := ⟨.dct a, rfl, h⟩
theorem vd_4 {s0 s1 s2 s3 : SL} {a : List (Key × D)} {l : Ss} (h : Q (.dct a) (s0 :: s1 :: s2 :: s3 :: .val (.dct a) :: l) μ) : dVarF 4 (s0 :: s1 :: s2 :: s3 :: .own (.dct a) :: l) μ Q := ⟨.dct a, rfl, h⟩
theorem vd_5 {s0 s1 s2 s3 s4 : SL} {a : List (Key × D)} {l : Ss} (h : Q (.dct a) (s0 :: s1 :: s2 :: s3 :: s4 :: .val (.dct a) :: l) μ) : dVarF 5 (s0 :: s1 :: s2 :: s3 :: s4 :: .own (.dct a) :: l) μ Q := ⟨.dct a, rfl, h⟩
theorem vd_6 {s0 s1 s2 s3 s4 s5 : SL} {a : List (Key × D)} {l : Ss} (h : Q (.dct a) (s0 :: s1 :: s2 :: s3 :: s4 :: s5 :: .val (.dct a) :: l) μ) : dVarF 6 (s0 :: s1 :: s2 :: s3 :: s4 :: s5 :: .own (.dct a) :: l) μ Q := ⟨.dct a, rfl, h⟩
theorem vd_7 {s0 s1 s2 s3 s4 s5 s6 : SL} {a : List (Key × D)} {l : Ss} (h : Q (.dct a) (s0 :: s1 :: s2 :: s3 :: s4 :: s5 :: s6 :: .val (.dct a) :: l) μ) : dVarF 7 (s0 :: s1 :: s2 :: s3 :: s4 :: s5 :: s6 :: .own (.dct a) :: l) μ Q := ⟨.dct a, rfl, h⟩
theorem vd_8 {s0 s1 s2 s3 s4 s5 s6 s7 : SL} {a : List (Key × D)} {l : Ss} (h : Q (.dct a) (s0 :: s1 :: s2 :: s3 :: s4 :: s5 :: s6 :: s7 :: .val (.dct a) :: l) μ) : dVarF 8 (s0 :: s1 :: s2 :: s3 :: s4 :: s5 :: s6 :: s7 :: .own (.dct a) :: l) μ Q := ⟨.dct a, rfl, h⟩
theorem vd_9 {s0 s1 s2 s3 s4 s5 s6 s7 s8 : SL} {a : List (Key × D)} {l : Ss} (h : Q (.dct a) (s0 :: s1 :: s2 :: s3 :: s4 :: s5 :: s6 :: s7 :: s8 :: .val (.dct a) :: l) μ) : dVarF 9 (s0 :: s1 :: s2 :: s3 :: s4 :: s5 :: s6 :: s7 :: s8 :: .own (.dct a) :: l) μ Q := ⟨.dct a, rfl, h⟩
theorem vd_10 {s0 s1 s2 s3 s4 s5 s6 s7 s8 s9 : SL} {a : List (Key × D)} {l : Ss} (h : Q (.dct a) (s0 :: s1 :: s2 :: s3 :: s4 :: s5 :: s6 :: s7 :: s8 :: s9 :: .val (.dct a) :: l) μ) : dVarF 10 (s0 :: s1 :: s2 :: s3 :: s4 :: s5 :: s6 :: s7 :: s8 :: s9 :: .own (.dct a) :: l) μ Q := ⟨.dct a, rfl, h⟩
theorem vd_11 {s0 s1 s2 s3 s4 s5 s6 s7 s8 s9 s10 : SL} {a : List (Key × D)} {l : Ss} (h : Q (.dct a) (s0 :: s1 :: s2 :: s3 :: s4 :: s5 :: s6 :: s7 :: s8 :: s9 :: s10 :: .val (.dct a) :: l) μ) : dVarF 11 (s0 :: s1 :: s2 :: s3 :: s4 :: s5 :: s6 :: s7 :: s8 :: s9 :: s10 :: .own (.dct a) :: l) μ Q := ⟨.dct a, rfl, h⟩
theorem n_0 {P : Ss → Mem → Prop} {s x : SL} {l : Ss} (h : P (x :: l) μ) : nxSet P 0 x (s :: l) μ := h
theorem n_1 {P : Ss → Mem → Prop} {s0 : SL} {s x : SL} {l : Ss} (h : P (s0 :: x :: l) μ) : nxSet P 1 x (s0 :: s :: l) μ := h
theorem n_2 {P : Ss → Mem → Prop} {s0 s1 : SL} {s x : SL} {l : Ss} (h : P (s0 :: s1 :: x :: l) μ) : nxSet P 2 x (s0 :: s1 :: s :: l) μ := h
theorem n_3 {P : Ss → Mem → Prop} {s0 s1 s2 : SL} {s x : SL} {l : Ss} (h : P (s0 :: s1 :: s2 :: x :: l) μ) : nxSet P 3 x (s0 :: s1 :: s2 :: s :: l) μ := h
theorem n_4 {P : Ss → Mem → Prop} {s0 s1 s2 s3 : SL} {s x : SL} {l : Ss} (h : P (s0 :: s1 :: s2 :: s3 :: x :: l) μ) : nxSet P 4 x (s0 :: s1 :: s2 :: s3 :: s :: l) μ := h
theorem n_5 {P : Ss → Mem → Prop} {s0 s1 s2 s3 s4 : SL} {s x : SL} {l : Ss} (h : P (s0 :: s1 :: s2 :: s3 :: s4 :: x :: l) μ) : nxSet P 5 x (s0 :: s1 :: s2 :: s3 :: s4 :: s :: l) μ := h
theorem n_6 {P : Ss → Mem → Prop} {s0 s1 s2 s3 s4 s5 : SL} {s x : SL} {l : Ss} (h : P (s0 :: s1 :: s2 :: s3 :: s4 :: s5 :: x :: l) μ) : nxSet P 6 x (s0 :: s1 :: s2 :: s3 :: s4 :: s5 :: s :: l) μ := h
theorem n_7 {P : Ss → Mem → Prop} {s0 s1 s2 s3 s4 s5 s6 : SL} {s x : SL} {l : Ss} (h : P (s0 :: s1 :: s2 :: s3 :: s4 :: s5 :: s6 :: x :: l) μ) : nxSet P 7 x (s0 :: s1 :: s2 :: s3 :: s4 :: s5 :: s6 :: s :: l) μ := h
theorem n_8 {P : Ss → Mem → Prop} {s0 s1 s2 s3 s4 s5 s6 s7 : SL} {s x : SL} {l : Ss} (h : P (s0 :: s1 :: s2 :: s3 :: s4 :: s5 :: s6 :: s7 :: x :: l) μ) : nxSet P 8 x (s0 :: s1 :: s2 :: s3 :: s4 :: s5 :: s6 :: s7 :: s :: l) μ := h
theorem n_9 {P : Ss → Mem → Prop} {s0 s1 s2 s3 s4 s5 s6 s7 s8 : SL} {s x : SL} {l : Ss} (h : P (s0 :: s1 :: s2 :: s3 :: s4 :: s5 :: s6 :: s7 :: s8 :: x :: l) μ) : nxSet P 9 x (s0 :: s1 :: s2 :: s3 :: s4 :: s5 :: s6 :: s7 :: s8 :: s :: l) μ := h
theorem n_10 {P : Ss → Mem → Prop} {s0 s1 s2 s3 s4 s5 s6 s7 s8 s9 : SL} {s x : SL} {l : Ss} (h : P (s0 :: s1 :: s2 :: s3 :: s4 :: s5 :: s6 :: s7 :: s8 :: s9 :: x :: l) μ) : nxSet P 10 x (s0 :: s1 :: s2 :: s3 :: s4 :: s5 :: s6 :: s7 :: s8 :: s9 :: s :: l) μ := h
theorem n_11 {P : Ss → Mem → Prop} {s0 s1 s2 s3 s4 s5 s6 s7 s8 s9 s10 : SL} {s x : SL} {l : Ss} (h : P (s0 :: s1 :: s2 :: s3 :: s4 :: s5 :: s6 :: s7 :: s8 :: s9 :: s10 :: x :: l) μ) : nxSet P 11 x (s0 :: s1 :: s2 :: s3 :: s4 :: s5 :: s6 :: s7 :: s8 :: s9 :: s10 :: s :: l) μ := h
theorem app_0 {de : DE} {a : List D} {l : Ss} (h : de (.own (.lst a) :: l) μ fun d δ1 μ1 => apNx nx 0 d δ1 μ1) : dApp 0 de ⟨nx, rt, bk, ct⟩ (.own (.lst a) :: l) μ := ⟨⟨a, rfl⟩, h⟩
theorem app_1 {de : DE} {s0 : SL} {a : List D} {l : Ss} (h : de (s0 :: .own (.lst a) :: l) μ fun d δ1 μ1 => apNx nx 1 d δ1 μ1) : dApp 1 de ⟨nx, rt, bk, ct⟩ (s0 :: .own (.lst a) :: l) μ := ⟨⟨a, rfl⟩, h⟩
theorem app_2 {de : DE} {s0 s1 : SL} {a : List D} {l : Ss} (h : de (s0 :: s1 :: .own (.lst a) :: l) μ fun d δ1 μ1 => apNx nx 2 d δ1 μ1) : dApp 2 de ⟨nx, rt, bk, ct⟩ (s0 :: s1 :: .own (.lst a) :: l) μ := ⟨⟨a, rfl⟩, h⟩
theorem app_3 {de : DE} {s0 s1 s2 : SL} {a : List D} {l : Ss} (h : de (s0 :: s1 :: s2 :: .own (.lst a) :: l) μ fun d δ1 μ1 => apNx nx 3 d δ1 μ1) : dApp 3 de ⟨nx, rt, bk, ct⟩ (s0 :: s1 :: s2 :: .own (.lst a) :: l) μ := ⟨⟨a, rfl⟩, h⟩
theorem app_4 {de : DE} {s0 s1 s2 s3 : SL} {a : List D} {l : Ss} (h : de (s0 :: s1 :: s2 :: s3 :: .own (.lst a) :: l) μ fun d δ1 μ1 => apNx nx 4 d δ1 μ1) : dApp 4 de ⟨nx, rt, bk, ct⟩ (s0 :: s1 :: s2 :: s3 :: .own (.lst a) :: l) μ := ⟨⟨a, rfl⟩, h⟩
theorem app_5 {de : DE} {s0 s1 s2 s3 s4 : SL} {a : List D} {l : Ss} (h : de (s0 :: s1 :: s2 :: s3 :: s4 :: .own (.lst a) :: l) μ fun d δ1 μ1 => apNx nx 5 d δ1 μ1) : dApp 5 de ⟨nx, rt, bk, ct⟩ (s0 :: s1 :: s2 :: s3 :: s4 :: .own (.lst a) :: l) μ := ⟨⟨a, rfl⟩, h⟩
theorem app_6 {de : DE} {s0 s1 s2 s3 s4 s5 : SL} {a : List D} {l : Ss} (h : de (s0 :: s1 :: s2 :: s3 :: s4 :: s5 :: .own (.lst a) :: l) μ fun d δ1 μ1 => apNx nx 6 d δ1 μ1) : dApp 6 de ⟨nx, rt, bk, ct⟩ (s0 :: s1 :: s2 :: s3 :: s4 :: s5 :: .own (.lst a) :: l) μ := ⟨⟨a, rfl⟩, h⟩
theorem app_7 {de : DE} {s0 s1 s2 s3 s4 s5 s6 : SL} {a : List D} {l : Ss} (h : de (s0 :: s1 :: s2 :: s3 :: s4 :: s5 :: s6 :: .own (.lst a) :: l) μ fun d δ1 μ1 => apNx nx 7 d δ1 μ1) : dApp 7 de ⟨nx, rt, bk, ct⟩ (s0 :: s1 :: s2 :: s3 :: s4 :: s5 :: s6 :: .own (.lst a) :: l) μ := ⟨⟨a, rfl⟩, h⟩
theorem app_8 {de : DE} {s0 s1 s2 s3 s4 s5 s6 s7 : SL} {a : List D} {l : Ss} (h : de (s0 :: s1 :: s2 :: s3 :: s4 :: s5 :: s6 :: s7 :: .own (.lst a) :: l) μ fun d δ1 μ1 => apNx nx 8 d δ1 μ1) : dApp 8 de ⟨nx, rt, bk, ct⟩ (s0 :: s1 :: s2 :: s3 :: s4 :: s5 :: s6 :: s7 :: .own (.lst a) :: l) μ := ⟨⟨a, rfl⟩, h⟩
theorem app_9 {de : DE} {s0 s1 s2 s3 s4 s5 s6 s7 s8 : SL} {a : List D} {l : Ss} (h : de (s0 :: s1 :: s2 :: s3 :: s4 :: s5 :: s6 :: s7 :: s8 :: .own (.lst a) :: l) μ fun d δ1 μ1 => apNx nx 9 d δ1 μ1) : dApp 9 de ⟨nx, rt, bk, ct⟩ (s0 :: s1 :: s2 :: s3 :: s4 :: s5 :: s6 :: s7 :: s8 :: .own (.lst a) :: l) μ := ⟨⟨a, rfl⟩, h⟩
theorem app_10 {de : DE} {s0 s1 s2 s3 s4 s5 s6 s7 s8 s9 : SL} {a : List D} {l : Ss} (h : de (s0 :: s1 :: s2 :: s3 :: s4 :: s5 :: s6 :: s7 :: s8 :: s9 :: .own (.lst a) :: l) μ fun d δ1 μ1 => apNx nx 10 d δ1 μ1) : dApp 10 de ⟨nx, rt, bk, ct⟩ (s0 :: s1 :: s2 :: s3 :: s4 :: s5 :: s6 :: s7 :: s8 :: s9 :: .own (.lst a) :: l) μ := ⟨⟨a, rfl⟩, h⟩
theorem app_11 {de : DE} {s0 s1 s2 s3 s4 s5 s6 s7 s8 s9 s10 : SL} {a : List D} {l : Ss} (h : de (s0 :: s1 :: s2 :: s3 :: s4 :: s5 :: s6 :: s7 :: s8 :: s9 :: s10 :: .own (.lst a) :: l) μ fun d δ1 μ1 => apNx nx 11 d δ1 μ1) : dApp 11 de ⟨nx, rt, bk, ct⟩ (s0 :: s1 :: s2 :: s3 :: s4 :: s5 :: s6 :: s7 :: s8 :: s9 :: s10 :: .own (.lst a) :: l) μ := ⟨⟨a, rfl⟩, h⟩
theorem apd_2 {R : Ss → Mem → Prop} {s0 s1 : SL} {a : List D} {d : D} {l : Ss} (hz : a.length < sizeLine) (h : R (s0 :: s1 :: .own (.lst (a ++ [d])) :: l) μ) : apNx R 2 d (s0 :: s1 :: .own (.lst a) :: l) μ := ⟨a, rfl, hz, h⟩
theorem apd_4 {R : Ss → Mem → Prop} {s0 s1 s2 s3 : SL} {a : List D} {d : D} {l : Ss} (hz : a.length < sizeLine) (h : R (s0 :: s1 :: s2 :: s3 :: .own (.lst (a ++ [d])) :: l) μ) : apNx R 4 d (s0 :: s1 :: s2 :: s3 :: .own (.lst a) :: l) μ := ⟨a, rfl, hz, h⟩
theorem aug_0 {de : DE} {f : Int → Int → Int} {n : Int} {l : Ss} (h : de (.val (.int n) :: l) μ fun d δ1 μ1 => ∃ m, d = .int m ∧ nxSet nx 0 (.val (.int (f n m))) δ1 μ1) : dAug 0 de f ⟨nx, rt, bk, ct⟩ (.val (.int n) :: l) μ := ⟨n, rfl, h⟩
theorem aug_1 {de : DE} {f : Int → Int → Int} {s0 : SL} {n : Int} {l : Ss} (h : de (s0 :: .val (.int n) :: l) μ fun d δ1 μ1 => ∃ m, d = .int m ∧ nxSet nx 1 (.val (.int (f n m))) δ1 μ1) : dAug 1 de f ⟨nx, rt, bk, ct⟩ (s0 :: .val (.int n) :: l) μ := ⟨n, rfl, h⟩
theorem aug_2 {de : DE} {f : Int → Int → Int} {s0 s1 : SL} {n : Int} {l : Ss} (h : de (s0 :: s1 :: .val (.int n) :: l) μ fun d δ1 μ1 => ∃ m, d = .int m ∧ nxSet nx 2 (.val (.int (f n m))) δ1 μ1) : dAug 2 de f ⟨nx, rt, bk, ct⟩ (s0 :: s1 :: .val (.int n) :: l) μ := ⟨n, rfl, h⟩
theorem aug_3 {de : DE} {f : Int → Int → Int} {s0 s1 s2 : SL} {n : Int} {l : Ss} (h : de (s0 :: s1 :: s2 :: .val (.int n) :: l) μ fun d δ1 μ1 => ∃ m, d = .int m ∧ nxSet nx 3 (.val (.int (f n m))) δ1 μ1) : dAug 3 de f ⟨nx, rt, bk, ct⟩ (s0 :: s1 :: s2 :: .val (.int n) :: l) μ := ⟨n, rfl, h⟩
theorem aug_4 {de : DE} {f : Int → Int → Int} {s0 s1 s2 s3 : SL} {n : Int} {l : Ss} (h : de (s0 :: s1 :: s2 :: s3 :: .val (.int n) :: l) μ fun d δ1 μ1 => ∃ m, d = .int m ∧ nxSet nx 4 (.val (.int (f n m))) δ1 μ1) : dAug 4 de f ⟨nx, rt, bk, ct⟩ (s0 :: s1 :: s2 :: s3 :: .val (.int n) :: l) μ := ⟨n, rfl, h⟩
theorem aug_5 {de : DE} {f : Int → Int → Int} {s0 s1 s2 s3 s4 : SL} {n : Int} {l : Ss} (h : de (s0 :: s1 :: s2 :: s3 :: s4 :: .val (.int n) :: l) μ fun d δ1 μ1 => ∃ m, d = .int m ∧ nxSet nx 5 (.val (.int (f n m))) δ1 μ1) : dAug 5 de f ⟨nx, rt, bk, ct⟩ (s0 :: s1 :: s2 :: s3 :: s4 :: .val (.int n) :: l) μ := ⟨n, rfl, h⟩
theorem aug_6 {de : DE} {f : Int → Int → Int} {s0 s1 s2 s3 s4 s5 : SL} {n : Int} {l : Ss} (h : de (s0 :: s1 :: s2 :: s3 :: s4 :: s5 :: .val (.int n) :: l) μ fun d δ1 μ1 => ∃ m, d = .int m ∧ nxSet nx 6 (.val (.int (f n m))) δ1 μ1) : dAug 6 de f ⟨nx, rt, bk, ct⟩ (s0 :: s1 :: s2 :: s3 :: s4 :: s5 :: .val (.int n) :: l) μ := ⟨n, rfl, h⟩
theorem aug_7 {de : DE} {f : Int → Int → Int} {s0 s1 s2 s3 s4 s5 s6 : SL} {n : Int} {l : Ss} (h : de (s0 :: s1 :: s2 :: s3 :: s4 :: s5 :: s6 :: .val (.int n) :: l) μ fun d δ1 μ1 => ∃ m, d = .int m ∧ nxSet nx 7 (.val (.int (f n m))) δ1 μ1) : dAug 7 de f ⟨nx, rt, bk, ct⟩ (s0 :: s1 :: s2 :: s3 :: s4 :: s5 :: s6 :: .val (.int n) :: l) μ := ⟨n, rfl, h⟩
theorem aug_8 {de : DE} {f : Int → Int → Int} {s0 s1 s2 s3 s4 s5 s6 s7 : SL} {n : Int} {l : Ss} (h : de (s0 :: s1 :: s2 :: s3 :: s4 :: s5 :: s6 :: s7 :: .val (.int n) :: l) μ fun d δ1 μ1 => ∃ m, d = .int m ∧ nxSet nx 8 (.val (.int (f n m))) δ1 μ1) : dAug 8 de f ⟨nx, rt, bk, ct⟩ (s0 :: s1 :: s2 :: s3 :: s4 :: s5 :: s6 :: s7 :: .val (.int n) :: l) μ := ⟨n, rfl, h⟩
theorem aug_9 {de : DE} {f : Int → Int → Int} {s0 s1 s2 s3 s4 s5 s6 s7 s8 : SL} {n : Int} {l : Ss} (h : de (s0 :: s1 :: s2 :: s3 :: s4 :: s5 :: s6 :: s7 :: s8 :: .val (.int n) :: l) μ fun d δ1 μ1 => ∃ m, d = .int m ∧ nxSet nx 9 (.val (.int (f n m))) δ1 μ1) : dAug 9 de f ⟨nx, rt, bk, ct⟩ (s0 :: s1 :: s2 :: s3 :: s4 :: s5 :: s6 :: s7 :: s8 :: .val (.int n) :: l) μ := ⟨n, rfl, h⟩
theorem aug_10 {de : DE} {f : Int → Int → Int} {s0 s1 s2 s3 s4 s5 s6 s7 s8 s9 : SL} {n : Int} {l : Ss} (h : de (s0 :: s1 :: s2 :: s3 :: s4 :: s5 :: s6 :: s7 :: s8 :: s9 :: .val (.int n) :: l) μ fun d δ1 μ1 => ∃ m, d = .int m ∧ nxSet nx 10 (.val (.int (f n m))) δ1 μ1) : dAug 10 de f ⟨nx, rt, bk, ct⟩ (s0 :: s1 :: s2 :: s3 :: s4 :: s5 :: s6 :: s7 :: s8 :: s9 :: .val (.int n) :: l) μ := ⟨n, rfl, h⟩
theorem aug_11 {de : DE} {f : Int → Int → Int} {s0 s1 s2 s3 s4 s5 s6 s7 s8 s9 s10 : SL} {n : Int} {l : Ss} (h : de (s0 :: s1 :: s2 :: s3 :: s4 :: s5 :: s6 :: s7 :: s8 :: s9 :: s10 :: .val (.int n) :: l) μ fun d δ1 μ1 => ∃ m, d = .int m ∧ nxSet nx 11 (.val (.int (f n m))) δ1 μ1) : dAug 11 de f ⟨nx, rt, bk, ct⟩ (s0 :: s1 :: s2 :: s3 :: s4 :: s5 :: s6 :: s7 :: s8 :: s9 :: s10 :: .val (.int n) :: l) μ := ⟨n, rfl, h⟩
theorem oo_0 {d1 d2 : DE} {m : MO} {l : Ss} (h : d1 (.own m :: l) μ Q) : dOO 0 d1 d2 (.own m :: l) μ Q := h
theorem ov_0 {d1 d2 : DE} {d : D} {l : Ss} (h : d2 (.val d :: l) μ Q) : dOO 0 d1 d2 (.val d :: l) μ Q := h
theorem to_0 {d1 d2 : DT} {R : Bool → Ss → Mem → Prop} {m : MO} {l : Ss} (h : d1 (.own m :: l) μ R) : dOT 0 d1 d2 (.own m :: l) μ R := h
theorem tv_0 {d1 d2 : DT} {R : Bool → Ss → Mem → Prop} {d : D} {l : Ss} (h : d2 (.val d :: l) μ R) : dOT 0 d1 d2 (.val d :: l) μ R := h
theorem lo_0 {a : List D} {l : Ss} (h : Q (.int a.length) (.own (.lst a) :: l) μ) : dLenO 0 (.own (.lst a) :: l) μ Q := ⟨a, rfl, h⟩
theorem so_0 {dl dh : DO} {m : MO} {l : Ss} (h : dl (.own m :: l) μ fun lo δ1 μ1 => dh δ1 μ1 fun hi δ2 μ2 => SlO 0 lo hi δ2 μ2 Q) : dSlO 0 dl dh (.own m :: l) μ Q := ⟨⟨m, rfl⟩, h⟩
theorem se_0 {a : List D} {lo hi : Option Int} {l : Ss} (h : Q (.lst (cutD a lo hi)) (.own (.lst a) :: l) μ) : SlO 0 lo hi (.own (.lst a) :: l) μ Q := ⟨a, rfl, h⟩
theorem xo_0 {db : DE} {m : MO} {l : Ss} (h : db (.own m :: l) μ fun y δ1 μ1 => IxO 0 y δ1 μ1 Q) : dIxO 0 db (.own m :: l) μ Q := ⟨⟨m, rfl⟩, h⟩
theorem xe_0 {a : List D} {y : D} {l : Ss} (h : rdIx (.lst a) y μ fun d μ1 => Q d (.own (.lst a) :: l) μ1) : IxO 0 y (.own (.lst a) :: l) μ Q := by
  obtain ⟨j, rfl, h | ⟨z, c, e, _⟩⟩ := h
  · obtain ⟨a2, d, e, h1, h2⟩ := h
    cases (show some a = some a2 from e)
    exact ⟨a, j, d, rfl, rfl, h1, h2⟩
  · cases e
theorem oo_1 {d1 d2 : DE} {s0 : SL} {m : MO} {l : Ss} (h : d1 (s0 :: .own m :: l) μ Q) : dOO 1 d1 d2 (s0 :: .own m :: l) μ Q := h
theorem ov_1 {d1 d2 : DE} {s0 : SL} {d : D} {l : Ss} (h : d2 (s0 :: .val d :: l) μ Q) : dOO 1 d1 d2 (s0 :: .val d :: l) μ Q := h
theorem to_1 {d1 d2 : DT} {R : Bool → Ss → Mem → Prop} {s0 : SL} {m : MO} {l : Ss} (h : d1 (s0 :: .own m :: l) μ R) : dOT 1 d1 d2 (s0 :: .own m :: l) μ R := h
theorem tv_1 {d1 d2 : DT} {R : Bool → Ss → Mem → Prop} {s0 : SL} {d : D} {l : Ss} (h : d2 (s0 :: .val d :: l) μ R) : dOT 1 d1 d2 (s0 :: .val d :: l) μ R := h
theorem lo_1 {s0 : SL} {a : List D} {l : Ss} (h : Q (.int a.length) (s0 :: .own (.lst a) :: l) μ) : dLenO 1 (s0 :: .own (.lst a) :: l) μ Q := ⟨a, rfl, h⟩
theorem so_1 {dl dh : DO} {s0 : SL} {m : MO} {l : Ss} (h : dl (s0 :: .own m :: l) μ fun lo δ1 μ1 => dh δ1 μ1 fun hi δ2 μ2 => SlO 1 lo hi δ2 μ2 Q) : dSlO 1 dl dh (s0 :: .own m :: l) μ Q := ⟨⟨m, rfl⟩, h⟩
theorem se_1 {s0 : SL} {a : List D} {lo hi : Option Int} {l : Ss} (h : Q (.lst (cutD a lo hi)) (s0 :: .own (.lst a) :: l) μ) : SlO 1 lo hi (s0 :: .own (.lst a) :: l) μ Q := ⟨a, rfl, h⟩
theorem xo_1 {db : DE} {s0 : SL} {m : MO} {l : Ss} (h : db (s0 :: .own m :: l) μ fun y δ1 μ1 => IxO 1 y δ1 μ1 Q) : dIxO 1 db (s0 :: .own m :: l) μ Q := ⟨⟨m, rfl⟩, h⟩
theorem xe_1 {s0 : SL} {a : List D} {y : D} {l : Ss} (h : rdIx (.lst a) y μ fun d μ1 => Q d (s0 :: .own (.lst a) :: l) μ1) : IxO 1 y (s0 :: .own (.lst a) :: l) μ Q := by
  obtain ⟨j, rfl, h | ⟨z, c, e, _⟩⟩ := h
  · obtain ⟨a2, d, e, h1, h2⟩ := h
    cases (show some a = some a2 from e)
    exact ⟨a, j, d, rfl, rfl, h1, h2⟩
  · cases e
theorem oo_2 {d1 d2 : DE} {s0 s1 : SL} {m : MO} {l : Ss} (h : d1 (s0 :: s1 :: .own m :: l) μ Q) : dOO 2 d1 d2 (s0 :: s1 :: .own m :: l) μ Q := h
theorem ov_2 {d1 d2 : DE} {s0 s1 : SL} {d : D} {l : Ss} (h : d2 (s0 :: s1 :: .val d :: l) μ Q) : dOO 2 d1 d2 (s0 :: s1 :: .val d :: l) μ Q := h
theorem to_2 {d1 d2 : DT} {R : Bool → Ss → Mem → Prop} {s0 s1 : SL} {m : MO} {l : Ss} (h : d1 (s0 :: s1 :: .own m :: l) μ R) : dOT 2 d1 d2 (s0 :: s1 :: .own m :: l) μ R := h
theorem tv_2 {d1 d2 : DT} {R : Bool → Ss → Mem → Prop} {s0 s1 : SL} {d : D} {l : Ss} (h : d2 (s0 :: s1 :: .val d :: l) μ R) : dOT 2 d1 d2 (s0 :: s1 :: .val d :: l) μ R := h
theorem lo_2 {s0 s1 : SL} {a : List D} {l : Ss} (h : Q (.int a.length) (s0 :: s1 :: .own (.lst a) :: l) μ) : dLenO 2 (s0 :: s1 :: .own (.lst a) :: l) μ Q := ⟨a, rfl, h⟩
theorem so_2 {dl dh : DO} {s0 s1 : SL} {m : MO} {l : Ss} (h : dl (s0 :: s1 :: .own m :: l) μ fun lo δ1 μ1 => dh δ1 μ1 fun hi δ2 μ2 => SlO 2 lo hi δ2 μ2 Q) : dSlO 2 dl dh (s0 :: s1 :: .own m :: l) μ Q := ⟨⟨m, rfl⟩, h⟩
theorem se_2 {s0 s1 : SL} {a : List D} {lo hi : Option Int} {l : Ss} (h : Q (.lst (cutD a lo hi)) (s0 :: s1 :: .own (.lst a) :: l) μ) : SlO 2 lo hi (s0 :: s1 :: .own (.lst a) :: l) μ Q := ⟨a, rfl, h⟩
theorem xo_2 {db : DE} {s0 s1 : SL} {m : MO} {l : Ss} (h : db (s0 :: s1 :: .own m :: l) μ fun y δ1 μ1 => IxO 2 y δ1 μ1 Q) : dIxO 2 db (s0 :: s1 :: .own m :: l) μ Q := ⟨⟨m, rfl⟩, h⟩
theorem xe_2 {s0 s1 : SL} {a : List D} {y : D} {l : Ss} (h : rdIx (.lst a) y μ fun d μ1 => Q d (s0 :: s1 :: .own (.lst a) :: l) μ1) : IxO 2 y (s0 :: s1 :: .own (.lst a) :: l) μ Q := by
  obtain ⟨j, rfl, h | ⟨z, c, e, _⟩⟩ := h
  · obtain ⟨a2, d, e, h1, h2⟩ := h
    cases (show some a = some a2 from e)
    exact ⟨a, j, d, rfl, rfl, h1, h2⟩
  · cases e
theorem oo_3 {d1 d2 : DE} {s0 s1 s2 : SL} {m : MO} {l : Ss} (h : d1 (s0 :: s1 :: s2 :: .own m :: l) μ Q) : dOO 3 d1 d2 (s0 :: s1 :: s2 :: .own m :: l) μ Q := h
theorem ov_3 {d1 d2 : DE} {s0 s1 s2 : SL} {d : D} {l : Ss} (h : d2 (s0 :: s1 :: s2 :: .val d :: l) μ Q) : dOO 3 d1 d2 (s0 :: s1 :: s2 :: .val d :: l) μ Q := h
theorem to_3 {d1 d2 : DT} {R : Bool → Ss → Mem → Prop} {s0 s1 s2 : SL} {m : MO} {l : Ss} (h : d1 (s0 :: s1 :: s2 :: .own m :: l) μ R) : dOT 3 d1 d2 (s0 :: s1 :: s2 :: .own m :: l) μ R := h
theorem tv_3 {d1 d2 : DT} {R : Bool → Ss → Mem → Prop} {s0 s1 s2 : SL} {d : D} {l : Ss} (h : d2 (s0 :: s1 :: s2 :: .val d :: l) μ R) : dOT 3 d1 d2 (s0 :: s1 :: s2 :: .val d :: l) μ R := h
theorem lo_3 {s0 s1 s2 : SL} {a : List D} {l : Ss} (h : Q (.int a.length) (s0 :: s1 :: s2 :: .own (.lst a) :: l) μ) : dLenO 3 (s0 :: s1 :: s2 :: .own (.lst a) :: l) μ Q := ⟨a, rfl, h⟩
theorem so_3 {dl dh : DO} {s0 s1 s2 : SL} {m : MO} {l : Ss} (h : dl (s0 :: s1 :: s2 :: .own m :: l) μ fun lo δ1 μ1 => dh δ1 μ1 fun hi δ2 μ2 => SlO 3 lo hi δ2 μ2 Q) : dSlO 3 dl dh (s0 :: s1 :: s2 :: .own m :: l) μ Q := ⟨⟨m, rfl⟩, h⟩
theorem se_3 {s0 s1 s2 : SL} {a : List D} {lo hi : Option Int} {l : Ss} (h : Q (.lst (cutD a lo hi)) (s0 :: s1 :: s2 :: .own (.lst a) :: l) μ) : SlO 3 lo hi (s0 :: s1 :: s2 :: .own (.lst a) :: l) μ Q := ⟨a, rfl, h⟩
theorem xo_3 {db : DE} {s0 s1 s2 : SL} {m : MO} {l : Ss} (h : db (s0 :: s1 :: s2 :: .own m :: l) μ fun y δ1 μ1 => IxO 3 y δ1 μ1 Q) : dIxO 3 db (s0 :: s1 :: s2 :: .own m :: l) μ Q := ⟨⟨m, rfl⟩, h⟩
theorem xe_3 {s0 s1 s2 : SL} {a : List D} {y : D} {l : Ss} (h : rdIx (.lst a) y μ fun d μ1 => Q d (s0 :: s1 :: s2 :: .own (.lst a) :: l) μ1) : IxO 3 y (s0 :: s1 :: s2 :: .own (.lst a) :: l) μ Q := by
  obtain ⟨j, rfl, h | ⟨z, c, e, _⟩⟩ := h
  · obtain ⟨a2, d, e, h1, h2⟩ := h
    cases (show some a = some a2 from e)
    exact ⟨a, j, d, rfl, rfl, h1, h2⟩
  · cases e
theorem oo_4 {d1 d2 : DE} {s0 s1 s2 s3 : SL} {m : MO} {l : Ss} (h : d1 (s0 :: s1 :: s2 :: s3 :: .own m :: l) μ Q) : dOO 4 d1 d2 (s0 :: s1 :: s2 :: s3 :: .own m :: l) μ Q := h
theorem ov_4 {d1 d2 : DE} {s0 s1 s2 s3 : SL} {d : D} {l : Ss} (h : d2 (s0 :: s1 :: s2 :: s3 :: .val d :: l) μ Q) : dOO 4 d1 d2 (s0 :: s1 :: s2 :: s3 :: .val d :: l) μ Q := h
theorem to_4 {d1 d2 : DT} {R : Bool → Ss → Mem → Prop} {s0 s1 s2 s3 : SL} {m : MO} {l : Ss} (h : d1 (s0 :: s1 :: s2 :: s3 :: .own m :: l) μ R) : dOT 4 d1 d2 (s0 :: s1 :: s2 :: s3 :: .own m :: l) μ R := h
theorem tv_4 {d1 d2 : DT} {R : Bool → Ss → Mem → Prop} {s0 s1 s2 s3 : SL} {d : D} {l : Ss} (h : d2 (s0 :: s1 :: s2 :: s3 :: .val d :: l) μ R) : dOT 4 d1 d2 (s0 :: s1 :: s2 :: s3 :: .val d :: l) μ R := h
theorem lo_4 {s0 s1 s2 s3 : SL} {a : List D} {l : Ss} (h : Q (.int a.length) (s0 :: s1 :: s2 :: s3 :: .own (.lst a) :: l) μ) : dLenO 4 (s0 :: s1 :: s2 :: s3 :: .own (.lst a) :: l) μ Q := ⟨a, rfl, h⟩
theorem so_4 {dl dh : DO} {s0 s1 s2 s3 : SL} {m : MO} {l : Ss} (h : dl (s0 :: s1 :: s2 :: s3 :: .own m :: l) μ fun lo δ1 μ1 => dh δ1 μ1 fun hi δ2 μ2 => SlO 4 lo hi δ2 μ2 Q) : dSlO 4 dl dh (s0 :: s1 :: s2 :: s3 :: .own m :: l) μ Q := ⟨⟨m, rfl⟩, h⟩
theorem se_4 {s0 s1 s2 s3 : SL} {a : List D} {lo hi : Option Int} {l : Ss} (h : Q (.lst (cutD a lo hi)) (s0 :: s1 :: s2 :: s3 :: .own (.lst a) :: l) μ) : SlO 4 lo hi (s0 :: s1 :: s2 :: s3 :: .own (.lst a) :: l) μ Q := ⟨a, rfl, h⟩
theorem xo_4 {db : DE} {s0 s1 s2 s3 : SL} {m : MO} {l : Ss} (h : db (s0 :: s1 :: s2 :: s3 :: .own m :: l) μ fun y δ1 μ1 => IxO 4 y δ1 μ1 Q) : dIxO 4 db (s0 :: s1 :: s2 :: s3 :: .own m :: l) μ Q := ⟨⟨m, rfl⟩, h⟩
theorem xe_4 {s0 s1 s2 s3 : SL} {a : List D} {y : D} {l : Ss} (h : rdIx (.lst a) y μ fun d μ1 => Q d (s0 :: s1 :: s2 :: s3 :: .own (.lst a) :: l) μ1) : IxO 4 y (s0 :: s1 :: s2 :: s3 :: .own (.lst a) :: l) μ Q := by
  obtain ⟨j, rfl, h | ⟨z, c, e, _⟩⟩ := h
  · obtain ⟨a2, d, e, h1, h2⟩ := h
    cases (show some a = some a2 from e)
    exact ⟨a, j, d, rfl, rfl, h1, h2⟩
  · cases e
theorem oo_5 {d1 d2 : DE} {s0 s1 s2 s3 s4 : SL} {m : MO} {l : Ss} (h : d1 (s0 :: s1 :: s2 :: s3 :: s4 :: .own m :: l) μ Q) : dOO 5 d1 d2 (s0 :: s1 :: s2 :: s3 :: s4 :: .own m :: l) μ Q := h
theorem ov_5 {d1 d2 : DE} {s0 s1 s2 s3 s4 : SL} {d : D} {l : Ss} (h : d2 (s0 :: s1 :: s2 :: s3 :: s4 :: .val d :: l) μ Q) : dOO 5 d1 d2 (s0 :: s1 :: s2 :: s3 :: s4 :: .val d :: l) μ Q := h
theorem to_5 {d1 d2 : DT} {R : Bool → Ss → Mem → Prop} {s0 s1 s2 s3 s4 : SL} {m : MO} {l : Ss} (h : d1 (s0 :: s1 :: s2 :: s3 :: s4 :: .own m :: l) μ R) : dOT 5 d1 d2 (s0 :: s1 :: s2 :: s3 :: s4 :: .own m :: l) μ R := h
theorem tv_5 {d1 d2 : DT} {R : Bool → Ss → Mem → Prop} {s0 s1 s2 s3 s4 : SL} {d : D} {l : Ss} (h : d2 (s0 :: s1 :: s2 :: s3 :: s4 :: .val d :: l) μ R) : dOT 5 d1 d2 (s0 :: s1 :: s2 :: s3 :: s4 :: .val d :: l) μ R := h
theorem lo_5 {s0 s1 s2 s3 s4 : SL} {a : List D} {l : Ss} (h : Q (.int a.length) (s0 :: s1 :: s2 :: s3 :: s4 :: .own (.lst a) :: l) μ) : dLenO 5 (s0 :: s1 :: s2 :: s3 :: s4 :: .own (.lst a) :: l) μ Q := ⟨a, rfl, h⟩
theorem so_5 {dl dh : DO} {s0 s1 s2 s3 s4 : SL} {m : MO} {l : Ss} (h : dl (s0 :: s1 :: s2 :: s3 :: s4 :: .own m :: l) μ fun lo δ1 μ1 => dh δ1 μ1 fun hi δ2 μ2 => SlO 5 lo hi δ2 μ2 Q) : dSlO 5 dl dh (s0 :: s1 :: s2 :: s3 :: s4 :: .own m :: l) μ Q := ⟨⟨m, rfl⟩, h⟩
theorem se_5 {s0 s1 s2 s3 s4 : SL} {a : List D} {lo hi : Option Int} {l : Ss} (h : Q (.lst (cutD a lo hi)) (s0 :: s1 :: s2 :: s3 :: s4 :: .own (.lst a) :: l) μ) : SlO 5 lo hi (s0 :: s1 :: s2 :: s3 :: s4 :: .own (.lst a) :: l) μ Q := ⟨a, rfl, h⟩
theorem xo_5 {db : DE} {s0 s1 s2 s3 s4 : SL} {m : MO} {l : Ss} (h : db (s0 :: s1 :: s2 :: s3 :: s4 :: .own m :: l) μ fun y δ1 μ1 => IxO 5 y δ1 μ1 Q) : dIxO 5 db (s0 :: s1 :: s2 :: s3 :: s4 :: .own m :: l) μ Q := ⟨⟨m, rfl⟩, h⟩
theorem xe_5 {s0 s1 s2 s3 s4 : SL} {a : List D} {y : D} {l : Ss} (h : rdIx (.lst a) y μ fun d μ1 => Q d (s0 :: s1 :: s2 :: s3 :: s4 :: .own (.lst a) :: l) μ1) : IxO 5 y (s0 :: s1 :: s2 :: s3 :: s4 :: .own (.lst a) :: l) μ Q := by
  obtain ⟨j, rfl, h | ⟨z, c, e, _⟩⟩ := h
  · obtain ⟨a2, d, e, h1, h2⟩ := h
    cases (show some a = some a2 from e)
    exact ⟨a, j, d, rfl, rfl, h1, h2⟩
  · cases e
theorem oo_6 {d1 d2 : DE} {s0 s1 s2 s3 s4 s5 : SL} {m : MO} {l : Ss} (h : d1 (s0 :: s1 :: s2 :: s3 :: s4 :: s5 :: .own m :: l) μ Q) : dOO 6 d1 d2 (s0 :: s1 :: s2 :: s3 :: s4 :: s5 :: .own m :: l) μ Q := h
theorem ov_6 {d1 d2 : DE} {s0 s1 s2 s3 s4 s5 : SL} {d : D} {l : Ss} (h : d2 (s0 :: s1 :: s2 :: s3 :: s4 :: s5 :: .val d :: l) μ Q) : dOO 6 d1 d2 (s0 :: s1 :: s2 :: s3 :: s4 :: s5 :: .val d :: l) μ Q := h
theorem to_6 {d1 d2 : DT} {R : Bool → Ss → Mem → Prop} {s0 s1 s2 s3 s4 s5 : SL} {m : MO} {l : Ss} (h : d1 (s0 :: s1 :: s2 :: s3 :: s4 :: s5 :: .own m :: l) μ R) : dOT 6 d1 d2 (s0 :: s1 :: s2 :: s3 :: s4 :: s5 :: .own m :: l) μ R := h
theorem tv_6 {d1 d2 : DT} {R : Bool → Ss → Mem → Prop} {s0 s1 s2 s3 s4 s5 : SL} {d : D} {l : Ss} (h : d2 (s0 :: s1 :: s2 :: s3 :: s4 :: s5 :: .val d :: l) μ R) : dOT 6 d1 d2 (s0 :: s1 :: s2 :: s3 :: s4 :: s5 :: .val d :: l) μ R := h
theorem lo_6 {s0 s1 s2 s3 s4 s5 : SL} {a : List D} {l : Ss} (h : Q (.int a.length) (s0 :: s1 :: s2 :: s3 :: s4 :: s5 :: .own (.lst a) :: l) μ) : dLenO 6 (s0 :: s1 :: s2 :: s3 :: s4 :: s5 :: .own (.lst a) :: l) μ Q := ⟨a, rfl, h⟩
theorem so_6 {dl dh : DO} {s0 s1 s2 s3 s4 s5 : SL} {m : MO} {l : Ss} (h : dl (s0 :: s1 :: s2 :: s3 :: s4 :: s5 :: .own m :: l) μ fun lo δ1 μ1 => dh δ1 μ1 fun hi δ2 μ2 => SlO 6 lo hi δ2 μ2 Q) : dSlO 6 dl dh (s0 :: s1 :: s2 :: s3 :: s4 :: s5 :: .own m :: l) μ Q := ⟨⟨m, rfl⟩, h⟩
theorem se_6 {s0 s1 s2 s3 s4 s5 : SL} {a : List D} {lo hi : Option Int} {l : Ss} (h : Q (.lst (cutD a lo hi)) (s0 :: s1 :: s2 :: s3 :: s4 :: s5 :: .own (.lst a) :: l) μ) : SlO 6 lo hi (s0 :: s1 :: s2 :: s3 :: s4 :: s5 :: .own (.lst a) :: l) μ Q := ⟨a, rfl, h⟩
theorem xo_6 {db : DE} {s0 s1 s2 s3 s4 s5 : SL} {m : MO} {l : Ss} (h : db (s0 :: s1 :: s2 :: s3 :: s4 :: s5 :: .own m :: l) μ fun y δ1 μ1 => IxO 6 y δ1 μ1 Q) : dIxO 6 db (s0 :: s1 :: s2 :: s3 :: s4 :: s5 :: .own m :: l) μ Q := ⟨⟨m, rfl⟩, h⟩
theorem xe_6 {s0 s1 s2 s3 s4 s5 : SL} {a : List D} {y : D} {l : Ss} (h : rdIx (.lst a) y μ fun d μ1 => Q d (s0 :: s1 :: s2 :: s3 :: s4 :: s5 :: .own (.lst a) :: l) μ1) : IxO 6 y (s0 :: s1 :: s2 :: s3 :: s4 :: s5 :: .own (.lst a) :: l) μ Q := by
  obtain ⟨j, rfl, h | ⟨z, c, e, _⟩⟩ := h
  · obtain ⟨a2, d, e, h1, h2⟩ := h
    cases (show some a = some a2 from e)
    exact ⟨a, j, d, rfl, rfl, h1, h2⟩
  · cases e
theorem oo_7 {d1 d2 : DE} {s0 s1 s2 s3 s4 s5 s6 : SL} {m : MO} {l : Ss} (h : d1 (s0 :: s1 :: s2 :: s3 :: s4 :: s5 :: s6 :: .own m :: l) μ Q) : dOO 7 d1 d2 (s0 :: s1 :: s2 :: s3 :: s4 :: s5 :: s6 :: .own m :: l) μ Q := h
theorem ov_7 {d1 d2 : DE} {s0 s1 s2 s3 s4 s5 s6 : SL} {d : D} {l : Ss} (h : d2 (s0 :: s1 :: s2 :: s3 :: s4 :: s5 :: s6 :: .val d :: l) μ Q) : dOO 7 d1 d2 (s0 :: s1 :: s2 :: s3 :: s4 :: s5 :: s6 :: .val d :: l) μ Q := h
theorem to_7 {d1 d2 : DT} {R : Bool → Ss → Mem → Prop} {s0 s1 s2 s3 s4 s5 s6 : SL} {m : MO} {l : Ss} (h : d1 (s0 :: s1 :: s2 :: s3 :: s4 :: s5 :: s6 :: .own m :: l) μ R) : dOT 7 d1 d2 (s0 :: s1 :: s2 :: s3 :: s4 :: s5 :: s6 :: .own m :: l) μ R := h
theorem tv_7 {d1 d2 : DT} {R : Bool → Ss → Mem → Prop} {s0 s1 s2 s3 s4 s5 s6 : SL} {d : D} {l : Ss} (h : d2 (s0 :: s1 :: s2 :: s3 :: s4 :: s5 :: s6 :: .val d :: l) μ R) : dOT 7 d1 d2 (s0 :: s1 :: s2 :: s3 :: s4 :: s5 :: s6 :: .val d :: l) μ R := h
theorem lo_7 {s0 s1 s2 s3 s4 s5 s6 : SL} {a : List D} {l : Ss} (h : Q (.int a.length) (s0 :: s1 :: s2 :: s3 :: s4 :: s5 :: s6 :: .own (.lst a) :: l) μ) : dLenO 7 (s0 :: s1 :: s2 :: s3 :: s4 :: s5 :: s6 :: .own (.lst a) :: l) μ Q := ⟨a, rfl, h⟩
theorem so_7 {dl dh : DO} {s0 s1 s2 s3 s4 s5 s6 : SL} {m : MO} {l : Ss} (h : dl (s0 :: s1 :: s2 :: s3 :: s4 :: s5 :: s6 :: .own m :: l) μ fun lo δ1 μ1 => dh δ1 μ1 fun hi δ2 μ2 => SlO 7 lo hi δ2 μ2 Q) : dSlO 7 dl dh (s0 :: s1 :: s2 :: s3 :: s4 :: s5 :: s6 :: .own m :: l) μ Q := ⟨⟨m, rfl⟩, h⟩
theorem se_7 {s0 s1 s2 s3 s4 s5 s6 : SL} {a : List D} {lo hi : Option Int} {l : Ss} (h : Q (.lst (cutD a lo hi)) (s0 :: s1 :: s2 :: s3 :: s4 :: s5 :: s6 :: .own (.lst a) :: l) μ) : SlO 7 lo hi (s0 :: s1 :: s2 :: s3 :: s4 :: s5 :: s6 :: .own (.lst a) :: l) μ Q := ⟨a, rfl, h⟩
theorem xo_7 {db : DE} {s0 s1 s2 s3 s4 s5 s6 : SL} {m : MO} {l : Ss} (h : db (s0 :: s1 :: s2 :: s3 :: s4 :: s5 :: s6 :: .own m :: l) μ fun y δ1 μ1 => IxO 7 y δ1 μ1 Q) : dIxO 7 db (s0 :: s1 :: s2 :: s3 :: s4 :: s5 :: s6 :: .own m :: l) μ Q := ⟨⟨m, rfl⟩, h⟩
theorem xe_7 {s0 s1 s2 s3 s4 s5 s6 : SL} {a : List D} {y : D} {l : Ss} (h : rdIx (.lst a) y μ fun d μ1 => Q d (s0 :: s1 :: s2 :: s3 :: s4 :: s5 :: s6 :: .own (.lst a) :: l) μ1) : IxO 7 y (s0 :: s1 :: s2 :: s3 :: s4 :: s5 :: s6 :: .own (.lst a) :: l) μ Q := by
  obtain ⟨j, rfl, h | ⟨z, c, e, _⟩⟩ := h
  · obtain ⟨a2, d, e, h1, h2⟩ := h
    cases (show some a = some a2 from e)
    exact ⟨a, j, d, rfl, rfl, h1, h2⟩
  · cases e
theorem oo_8 {d1 d2 : DE} {s0 s1 s2 s3 s4 s5 s6 s7 : SL} {m : MO} {l : Ss} (h : d1 (s0 :: s1 :: s2 :: s3 :: s4 :: s5 :: s6 :: s7 :: .own m :: l) μ Q) : dOO 8 d1 d2 (s0 :: s1 :: s2 :: s3 :: s4 :: s5 :: s6 :: s7 :: .own m :: l) μ Q := h
theorem ov_8 {d1 d2 : DE} {s0 s1 s2 s3 s4 s5 s6 s7 : SL} {d : D} {l : Ss} (h : d2 (s0 :: s1 :: s2 :: s3 :: s4 :: s5 :: s6 :: s7 :: .val d :: l) μ Q) : dOO 8 d1 d2 (s0 :: s1 :: s2 :: s3 :: s4 :: s5 :: s6 :: s7 :: .val d :: l) μ Q := h
theorem to_8 {d1 d2 : DT} {R : Bool → Ss → Mem → Prop} {s0 s1 s2 s3 s4 s5 s6 s7 : SL} {m : MO} {l : Ss} (h : d1 (s0 :: s1 :: s2 :: s3 :: s4 :: s5 :: s6 :: s7 :: .own m :: l) μ R) : dOT 8 d1 d2 (s0 :: s1 :: s2 :: s3 :: s4 :: s5 :: s6 :: s7 :: .own m :: l) μ R := h
theorem tv_8 {d1 d2 : DT} {R : Bool → Ss → Mem → Prop} {s0 s1 s2 s3 s4 s5 s6 s7 : SL} {d : D} {l : Ss} (h : d2 (s0 :: s1 :: s2 :: s3 :: s4 :: s5 :: s6 :: s7 :: .val d :: l) μ R) : dOT 8 d1 d2 (s0 :: s1 :: s2 :: s3 :: s4 :: s5 :: s6 :: s7 :: .val d :: l) μ R := h
theorem lo_8 {s0 s1 s2 s3 s4 s5 s6 s7 : SL} {a : List D} {l : Ss} (h : Q (.int a.length) (s0 :: s1 :: s2 :: s3 :: s4 :: s5 :: s6 :: s7 :: .own (.lst a) :: l) μ) : dLenO 8 (s0 :: s1 :: s2 :: s3 :: s4 :: s5 :: s6 :: s7 :: .own (.lst a) :: l) μ Q := ⟨a, rfl, h⟩
theorem so_8 {dl dh : DO} {s0 s1 s2 s3 s4 s5 s6 s7 : SL} {m : MO} {l : Ss} (h : dl (s0 :: s1 :: s2 :: s3 :: s4 :: s5 :: s6 :: s7 :: .own m :: l) μ fun lo δ1 μ1 => dh δ1 μ1 fun hi δ2 μ2 => SlO 8 lo hi δ2 μ2 Q) : dSlO 8 dl dh (s0 :: s1 :: s2 :: s3 :: s4 :: s5 :: s6 :: s7 :: .own m :: l) μ Q := ⟨⟨m, rfl⟩, h⟩
theorem se_8 {s0 s1 s2 s3 s4 s5 s6 s7 : SL} {a : List D} {lo hi : Option Int} {l : Ss} (h : Q (.lst (cutD a lo hi)) (s0 :: s1 :: s2 :: s3 :: s4 :: s5 :: s6 :: s7 :: .own (.lst a) :: l) μ) : SlO 8 lo hi (s0 :: s1 :: s2 :: s3 :: s4 :: s5 :: s6 :: s7 :: .own (.lst a) :: l) μ Q := ⟨a, rfl, h⟩
theorem xo_8 {db : DE} {s0 s1 s2 s3 s4 s5 s6 s7 : SL} {m : MO} {l : Ss} (h : db (s0 :: s1 :: s2 :: s3 :: s4 :: s5 :: s6 :: s7 :: .own m :: l) μ fun y δ1 μ1 => IxO 8 y δ1 μ1 Q) : dIxO 8 db (s0 :: s1 :: s2 :: s3 :: s4 :: s5 :: s6 :: s7 :: .own m :: l) μ Q := ⟨⟨m, rfl⟩, h⟩
theorem xe_8 {s0 s1 s2 s3 s4 s5 s6 s7 : SL} {a : List D} {y : D} {l : Ss} (h : rdIx (.lst a) y μ fun d μ1 => Q d (s0 :: s1 :: s2 :: s3 :: s4 :: s5 :: s6 :: s7 :: .own (.lst a) :: l) μ1) : IxO 8 y (s0 :: s1 :: s2 :: s3 :: s4 :: s5 :: s6 :: s7 :: .own (.lst a) :: l) μ Q := by
  obtain ⟨j, rfl, h | ⟨z, c, e, _⟩⟩ := h
  · obtain ⟨a2, d, e, h1, h2⟩ := h
    cases (show some a = some a2 from e)
    exact ⟨a, j, d, rfl, rfl, h1, h2⟩
  · cases e
theorem oo_9 {d1 d2 : DE} {s0 s1 s2 s3 s4 s5 s6 s7 s8 : SL} {m : MO} {l : Ss} (h : d1 (s0 :: s1 :: s2 :: s3 :: s4 :: s5 :: s6 :: s7 :: s8 :: .own m :: l) μ Q) : dOO 9 d1 d2 (s0 :: s1 :: s2 :: s3 :: s4 :: s5 :: s6 :: s7 :: s8 :: .own m :: l) μ Q := h
theorem ov_9 {d1 d2 : DE} {s0 s1 s2 s3 s4 s5 s6 s7 s8 : SL} {d : D} {l : Ss} (h : d2 (s0 :: s1 :: s2 :: s3 :: s4 :: s5 :: s6 :: s7 :: s8 :: .val d :: l) μ Q) : dOO 9 d1 d2 (s0 :: s1 :: s2 :: s3 :: s4 :: s5 :: s6 :: s7 :: s8 :: .val d :: l) μ Q := h
theorem to_9 {d1 d2 : DT} {R : Bool → Ss → Mem → Prop} {s0 s1 s2 s3 s4 s5 s6 s7 s8 : SL} {m : MO} {l : Ss} (h : d1 (s0 :: s1 :: s2 :: s3 :: s4 :: s5 :: s6 :: s7 :: s8 :: .own m :: l) μ R) : dOT 9 d1 d2 (s0 :: s1 :: s2 :: s3 :: s4 :: s5 :: s6 :: s7 :: s8 :: .own m :: l) μ R := h
theorem tv_9 {d1 d2 : DT} {R : Bool → Ss → Mem → Prop} {s0 s1 s2 s3 s4 s5 s6 s7 s8 : SL} {d : D} {l : Ss} (h : d2 (s0 :: s1 :: s2 :: s3 :: s4 :: s5 :: s6 :: s7 :: s8 :: .val d :: l) μ R) : dOT 9 d1 d2 (s0 :: s1 :: s2 :: s3 :: s4 :: s5 :: s6 :: s7 :: s8 :: .val d :: l) μ R := h
theorem lo_9 {s0 s1 s2 s3 s4 s5 s6 s7 s8 : SL} {a : List D} {l : Ss} (h : Q (.int a.length) (s0 :: s1 :: s2 :: s3 :: s4 :: s5 :: s6 :: s7 :: s8 :: .own (.lst a) :: l) μ) : dLenO 9 (s0 :: s1 :: s2 :: s3 :: s4 :: s5 :: s6 :: s7 :: s8 :: .own (.lst a) :: l) μ Q := ⟨a, rfl, h⟩
theorem so_9 {dl dh : DO} {s0 s1 s2 s3 s4 s5 s6 s7 s8 : SL} {m : MO} {l : Ss} (h : dl (s0 :: s1 :: s2 :: s3 :: s4 :: s5 :: s6 :: s7 :: s8 :: .own m :: l) μ fun lo δ1 μ1 => dh δ1 μ1 fun hi δ2 μ2 => SlO 9 lo hi δ2 μ2 Q) : dSlO 9 dl dh (s0 :: s1 :: s2 :: s3 :: s4 :: s5 :: s6 :: s7 :: s8 :: .own m :: l) μ Q := ⟨⟨m, rfl⟩, h⟩
theorem se_9 {s0 s1 s2 s3 s4 s5 s6 s7 s8 : SL} {a : List D} {lo hi : Option Int} {l : Ss} (h : Q (.lst (cutD a lo hi)) (s0 :: s1 :: s2 :: s3 :: s4 :: s5 :: s6 :: s7 :: s8 :: .own (.lst a) :: l) μ) : SlO 9 lo hi (s0 :: s1 :: s2 :: s3 :: s4 :: s5 :: s6 :: s7 :: s8 :: .own (.lst a) :: l) μ Q := ⟨a, rfl, h⟩
theorem xo_9 {db : DE} {s0 s1 s2 s3 s4 s5 s6 s7 s8 : SL} {m : MO} {l : Ss} (h : db (s0 :: s1 :: s2 :: s3 :: s4 :: s5 :: s6 :: s7 :: s8 :: .own m :: l) μ fun y δ1 μ1 => IxO 9 y δ1 μ1 Q) : dIxO 9 db (s0 :: s1 :: s2 :: s3 :: s4 :: s5 :: s6 :: s7 :: s8 :: .own m :: l) μ Q := ⟨⟨m, rfl⟩, h⟩
theorem xe_9 {s0 s1 s2 s3 s4 s5 s6 s7 s8 : SL} {a : List D} {y : D} {l : Ss} (h : rdIx (.lst a) y μ fun d μ1 => Q d (s0 :: s1 :: s2 :: s3 :: s4 :: s5 :: s6 :: s7 :: s8 :: .own (.lst a) :: l) μ1) : IxO 9 y (s0 :: s1 :: s2 :: s3 :: s4 :: s5 :: s6 :: s7 :: s8 :: .own (.lst a) :: l) μ Q := by
  obtain ⟨j, rfl, h | ⟨z, c, e, _⟩⟩ := h
  · obtain ⟨a2, d, e, h1, h2⟩ := h
    cases (show some a = some a2 from e)
    exact ⟨a, j, d, rfl, rfl, h1, h2⟩
  · cases e
theorem oo_10 {d1 d2 : DE} {s0 s1 s2 s3 s4 s5 s6 s7 s8 s9 : SL} {m : MO} {l : Ss} (h : d1 (s0 :: s1 :: s2 :: s3 :: s4 :: s5 :: s6 :: s7 :: s8 :: s9 :: .own m :: l) μ Q) : dOO 10 d1 d2 (s0 :: s1 :: s2 :: s3 :: s4 :: s5 :: s6 :: s7 :: s8 :: s9 :: .own m :: l) μ Q := h
theorem ov_10 {d1 d2 : DE} {s0 s1 s2 s3 s4 s5 s6 s7 s8 s9 : SL} {d : D} {l : Ss} (h : d2 (s0 :: s1 :: s2 :: s3 :: s4 :: s5 :: s6 :: s7 :: s8 :: s9 :: .val d :: l) μ Q) : dOO 10 d1 d2 (s0 :: s1 :: s2 :: s3 :: s4 :: s5 :: s6 :: s7 :: s8 :: s9 :: .val d :: l) μ Q := h
theorem to_10 {d1 d2 : DT} {R : Bool → Ss → Mem → Prop} {s0 s1 s2 s3 s4 s5 s6 s7 s8 s9 : SL} {m : MO} {l : Ss} (h : d1 (s0 :: s1 :: s2 :: s3 :: s4 :: s5 :: s6 :: s7 :: s8 :: s9 :: .own m :: l) μ R) : dOT 10 d1 d2 (s0 :: s1 :: s2 :: s3 :: s4 :: s5 :: s6 :: s7 :: s8 :: s9 :: .own m :: l) μ R := h
theorem tv_10 {d1 d2 : DT} {R : Bool → Ss → Mem → Prop} {s0 s1 s2 s3 s4 s5 s6 s7 s8 s9 : SL} {d : D} {l : Ss} (h : d2 (s0 :: s1 :: s2 :: s3 :: s4 :: s5 :: s6 :: s7 :: s8 :: s9 :: .val d :: l) μ R) : dOT 10 d1 d2 (s0 :: s1 :: s2 :: s3 :: s4 :: s5 :: s6 :: s7 :: s8 :: s9 :: .val d :: l) μ R := h
theorem lo_10 {s0 s1 s2 s3 s4 s5 s6 s7 s8 s9 : SL} {a : List D} {l : Ss} (h : Q (.int a.length) (s0 :: s1 :: s2 :: s3 :: s4 :: s5 :: s6 :: s7 :: s8 :: s9 :: .own (.lst a) :: l) μ) : dLenO 10 (s0 :: s1 :: s2 :: s3 :: s4 :: s5 :: s6 :: s7 :: s8 :: s9 :: .own (.lst a) :: l) μ Q := ⟨a, rfl, h⟩
theorem so_10 {dl dh : DO} {s0 s1 s2 s3 s4 s5 s6 s7 s8 s9 : SL} {m : MO} {l : Ss} (h : dl (s0 :: s1 :: s2 :: s3 :: s4 :: s5 :: s6 :: s7 :: s8 :: s9 :: .own m :: l) μ fun lo δ1 μ1 => dh δ1 μ1 fun hi δ2 μ2 => SlO 10 lo hi δ2 μ2 Q) : dSlO 10 dl dh (s0 :: s1 :: s2 :: s3 :: s4 :: s5 :: s6 :: s7 :: s8 :: s9 :: .own m :: l) μ Q := ⟨⟨m, rfl⟩, h⟩
theorem se_10 {s0 s1 s2 s3 s4 s5 s6 s7 s8 s9 : SL} {a : List D} {lo hi : Option Int} {l : Ss} (h : Q (.lst (cutD a lo hi)) (s0 :: s1 :: s2 :: s3 :: s4 :: s5 :: s6 :: s7 :: s8 :: s9 :: .own (.lst a) :: l) μ) : SlO 10 lo hi (s0 :: s1 :: s2 :: s3 :: s4 :: s5 :: s6 :: s7 :: s8 :: s9 :: .own (.lst a) :: l) μ Q := ⟨a, rfl, h⟩
theorem xo_10 {db : DE} {s0 s1 s2 s3 s4 s5 s6 s7 s8 s9 : SL} {m : MO} {l : Ss} (h : db (s0 :: s1 :: s2 :: s3 :: s4 :: s5 :: s6 :: s7 :: s8 :: s9 :: .own m :: l) μ fun y δ1 μ1 => IxO 10 y δ1 μ1 Q) : dIxO 10 db (s0 :: s1 :: s2 :: s3 :: s4 :: s5 :: s6 :: s7 :: s8 :: s9 :: .own m :: l) μ Q := ⟨⟨m, rfl⟩, h⟩
theorem xe_10 {s0 s1 s2 s3 s4 s5 s6 s7 s8 s9 : SL} {a : List D} {y : D} {l : Ss} (h : rdIx (.lst a) y μ fun d μ1 => Q d (s0 :: s1 :: s2 :: s3 :: s4 :: s5 :: s6 :: s7 :: s8 :: s9 :: .own (.lst a) :: l) μ1) : IxO 10 y (s0 :: s1 :: s2 :: s3 :: s4 :: s5 :: s6 :: s7 :: s8 :: s9 :: .own (.lst a) :: l) μ Q := by
  obtain ⟨j, rfl, h | ⟨z, c, e, _⟩⟩ := h
  · obtain ⟨a2, d, e, h1, h2⟩ := h
    cases (show some a = some a2 from e)
    exact ⟨a, j, d, rfl, rfl, h1, h2⟩
  · cases e
theorem oo_11 {d1 d2 : DE} {s0 s1 s2 s3 s4 s5 s6 s7 s8 s9 s10 : SL} {m : MO} {l : Ss} (h : d1 (s0 :: s1 :: s2 :: s3 :: s4 :: s5 :: s6 :: s7 :: s8 :: s9 :: s10 :: .own m :: l) μ Q) : dOO 11 d1 d2 (s0 :: s1 :: s2 :: s3 :: s4 :: s5 :: s6 :: s7 :: s8 :: s9 :: s10 :: .own m :: l) μ Q := h
theorem ov_11 {d1 d2 : DE} {s0 s1 s2 s3 s4 s5 s6 s7 s8 s9 s10 : SL} {d : D} {l : Ss} (h : d2 (s0 :: s1 :: s2 :: s3 :: s4 :: s5 :: s6 :: s7 :: s8 :: s9 :: s10 :: .val d :: l) μ Q) : dOO 11 d1 d2 (s0 :: s1 :: s2 :: s3 :: s4 :: s5 :: s6 :: s7 :: s8 :: s9 :: s10 :: .val d :: l) μ Q := h
theorem to_11 {d1 d2 : DT} {R : Bool → Ss → Mem → Prop} {s0 s1 s2 s3 s4 s5 s6 s7 s8 s9 s10 : SL} {m : MO} {l : Ss} (h : d1 (s0 :: s1 :: s2 :: s3 :: s4 :: s5 :: s6 :: s7 :: s8 :: s9 :: s10 :: .own m :: l) μ R) : dOT 11 d1 d2 (s0 :: s1 :: s2 :: s3 :: s4 :: s5 :: s6 :: s7 :: s8 :: s9 :: s10 :: .own m :: l) μ R := h
theorem tv_11 {d1 d2 : DT} {R : Bool → Ss → Mem → Prop} {s0 s1 s2 s3 s4 s5 s6 s7 s8 s9 s10 : SL} {d : D} {l : Ss} (h : d2 (s0 :: s1 :: s2 :: s3 :: s4 :: s5 :: s6 :: s7 :: s8 :: s9 :: s10 :: .val d :: l) μ R) : dOT 11 d1 d2 (s0 :: s1 :: s2 :: s3 :: s4 :: s5 :: s6 :: s7 :: s8 :: s9 :: s10 :: .val d :: l) μ R := h
theorem lo_11 {s0 s1 s2 s3 s4 s5 s6 s7 s8 s9 s10 : SL} {a : List D} {l : Ss} (h : Q (.int a.length) (s0 :: s1 :: s2 :: s3 :: s4 :: s5 :: s6 :: s7 :: s8 :: s9 :: s10 :: .own (.lst a) :: l) μ) : dLenO 11 (s0 :: s1 :: s2 :: s3 :: s4 :: s5 :: s6 :: s7 :: s8 :: s9 :: s10 :: .own (.lst a) :: l) μ Q := ⟨a, rfl, h⟩
theorem so_11 {dl dh : DO} {s0 s1 s2 s3 s4 s5 s6 s7 s8 s9 s10 : SL} {m : MO} {l : Ss} (h : dl (s0 :: s1 :: s2 :: s3 :: s4 :: s5 :: s6 :: s7 :: s8 :: s9 :: s10 :: .own m :: l) μ fun lo δ1 μ1 => dh δ1 μ1 fun hi δ2 μ2 => SlO 11 lo hi δ2 μ2 Q) : dSlO 11 dl dh (s0 :: s1 :: s2 :: s3 :: s4 :: s5 :: s6 :: s7 :: s8 :: s9 :: s10 :: .own m :: l) μ Q := ⟨⟨m, rfl⟩, h⟩
theorem se_11 {s0 s1 s2 s3 s4 s5 s6 s7 s8 s9 s10 : SL} {a : List D} {lo hi : Option Int} {l : Ss} (h : Q (.lst (cutD a lo hi)) (s0 :: s1 :: s2 :: s3 :: s4 :: s5 :: s6 :: s7 :: s8 :: s9 :: s10 :: .own (.lst a) :: l) μ) : SlO 11 lo hi (s0 :: s1 :: s2 :: s3 :: s4 :: s5 :: s6 :: s7 :: s8 :: s9 :: s10 :: .own (.lst a) :: l) μ Q := ⟨a, rfl, h⟩
theorem xo_11 {db : DE} {s0 s1 s2 s3 s4 s5 s6 s7 s8 s9 s10 : SL} {m : MO} {l : Ss} (h : db (s0 :: s1 :: s2 :: s3 :: s4 :: s5 :: s6 :: s7 :: s8 :: s9 :: s10 :: .own m :: l) μ fun y δ1 μ1 => IxO 11 y δ1 μ1 Q) : dIxO 11 db (s0 :: s1 :: s2 :: s3 :: s4 :: s5 :: s6 :: s7 :: s8 :: s9 :: s10 :: .own m :: l) μ Q := ⟨⟨m, rfl⟩, h⟩
theorem xe_11 {s0 s1 s2 s3 s4 s5 s6 s7 s8 s9 s10 : SL} {a : List D} {y : D} {l : Ss} (h : rdIx (.lst a) y μ fun d μ1 => Q d (s0 :: s1 :: s2 :: s3 :: s4 :: s5 :: s6 :: s7 :: s8 :: s9 :: s10 :: .own (.lst a) :: l) μ1) : IxO 11 y (s0 :: s1 :: s2 :: s3 :: s4 :: s5 :: s6 :: s7 :: s8 :: s9 :: s10 :: .own (.lst a) :: l) μ Q := by
  obtain ⟨j, rfl, h | ⟨z, c, e, _⟩⟩ := h
  · obtain ⟨a2, d, e, h1, h2⟩ := h
    cases (show some a = some a2 from e)
    exact ⟨a, j, d, rfl, rfl, h1, h2⟩
  · cases e
def LmNx (lm : LM) (i : Nat) (ds : List D) (δ : Ss) (μ : Mem) (Q : QE) : Prop := ∃ l, δ[i]? = some (.own (.lst l)) ∧ lm ds l μ fun d l2 => Q d (δ.set i (.own (.lst l2))) μ
def EqV (neg : Bool) (x y : D) (μ : Mem) (R : D → Prop) : Prop := shD x = true ∧ shD (drf μ y) = true ∧ R (.bl (if neg then !eqD x (drf μ y) else eqD x (drf μ y)))
def EqNx (neg : Bool) (i : Nat) (y : D) (δ : Ss) (μ : Mem) (Q : QE) : Prop := ∃ l, δ[i]? = some (.own (.lst l)) ∧ EqV neg (.lst l) y μ fun d => Q d δ μ
theorem lm_0 {lm : LM} {da : DA} {a : List D} {l : Ss} (h : da (.own (.lst a) :: l) μ fun ds δ1 μ1 => LmNx lm 0 ds δ1 μ1 Q) : dLMO 0 lm da (.own (.lst a) :: l) μ Q := ⟨⟨a, rfl⟩, h⟩
theorem lme_0 {lm : LM} {ds : List D} {a : List D} {l : Ss} (h : lm ds a μ fun d l2 => Q d (.own (.lst l2) :: l) μ) : LmNx lm 0 ds (.own (.lst a) :: l) μ Q := ⟨a, rfl, h⟩
theorem eo_0 {neg : Bool} {db : DE} {a : List D} {l : Ss} (h : db (.own (.lst a) :: l) μ fun y δ1 μ1 => EqNx neg 0 y δ1 μ1 Q) : dEqO neg 0 db (.own (.lst a) :: l) μ Q := ⟨⟨a, rfl⟩, h⟩
theorem eoe_0 {neg : Bool} {y : D} {a : List D} {l : Ss} (h : EqV neg (.lst a) y μ fun d => Q d (.own (.lst a) :: l) μ) : EqNx neg 0 y (.own (.lst a) :: l) μ Q := ⟨a, rfl, h⟩
theorem lm_1 {lm : LM} {da : DA} {s0 : SL} {a : List D} {l : Ss} (h : da (s0 :: .own (.lst a) :: l) μ fun ds δ1 μ1 => LmNx lm 1 ds δ1 μ1 Q) : dLMO 1 lm da (s0 :: .own (.lst a) :: l) μ Q := ⟨⟨a, rfl⟩, h⟩
theorem lme_1 {lm : LM} {ds : List D} {s0 : SL} {a : List D} {l : Ss} (h : lm ds a μ fun d l2 => Q d (s0 :: .own (.lst l2) :: l) μ) : LmNx lm 1 ds (s0 :: .own (.lst a) :: l) μ Q := ⟨a, rfl, h⟩
theorem eo_1 {neg : Bool} {db : DE} {s0 : SL} {a : List D} {l : Ss} (h : db (s0 :: .own (.lst a) :: l) μ fun y δ1 μ1 => EqNx neg 1 y δ1 μ1 Q) : dEqO neg 1 db (s0 :: .own (.lst a) :: l) μ Q := ⟨⟨a, rfl⟩, h⟩
theorem eoe_1 {neg : Bool} {y : D} {s0 : SL} {a : List D} {l : Ss} (h : EqV neg (.lst a) y μ fun d => Q d (s0 :: .own (.lst a) :: l) μ) : EqNx neg 1 y (s0 :: .own (.lst a) :: l) μ Q := ⟨a, rfl, h⟩
theorem lm_2 {lm : LM} {da : DA} {s0 s1 : SL} {a : List D} {l : Ss} (h : da (s0 :: s1 :: .own (.lst a) :: l) μ fun ds δ1 μ1 => LmNx lm 2 ds δ1 μ1 Q) : dLMO 2 lm da (s0 :: s1 :: .own (.lst a) :: l) μ Q := ⟨⟨a, rfl⟩, h⟩
theorem lme_2 {lm : LM} {ds : List D} {s0 s1 : SL} {a : List D} {l : Ss} (h : lm ds a μ fun d l2 => Q d (s0 :: s1 :: .own (.lst l2) :: l) μ) : LmNx lm 2 ds (s0 :: s1 :: .own (.lst a) :: l) μ Q := ⟨a, rfl, h⟩
theorem eo_2 {neg : Bool} {db : DE} {s0 s1 : SL} {a : List D} {l : Ss} (h : db (s0 :: s1 :: .own (.lst a) :: l) μ fun y δ1 μ1 => EqNx neg 2 y δ1 μ1 Q) : dEqO neg 2 db (s0 :: s1 :: .own (.lst a) :: l) μ Q := ⟨⟨a, rfl⟩, h⟩
theorem eoe_2 {neg : Bool} {y : D} {s0 s1 : SL} {a : List D} {l : Ss} (h : EqV neg (.lst a) y μ fun d => Q d (s0 :: s1 :: .own (.lst a) :: l) μ) : EqNx neg 2 y (s0 :: s1 :: .own (.lst a) :: l) μ Q := ⟨a, rfl, h⟩
theorem lm_3 {lm : LM} {da : DA} {s0 s1 s2 : SL} {a : List D} {l : Ss} (h : da (s0 :: s1 :: s2 :: .own (.lst a) :: l) μ fun ds δ1 μ1 => LmNx lm 3 ds δ1 μ1 Q) : dLMO 3 lm da (s0 :: s1 :: s2 :: .own (.lst a) :: l) μ Q := ⟨⟨a, rfl⟩, h⟩
theorem lme_3 {lm : LM} {ds : List D} {s0 s1 s2 : SL} {a : List D} {l : Ss} (h : lm ds a μ fun d l2 => Q d (s0 :: s1 :: s2 :: .own (.lst l2) :: l) μ) : LmNx lm 3 ds (s0 :: s1 :: s2 :: .own (.lst a) :: l) μ Q := ⟨a, rfl, h⟩
theorem eo_3 {neg : Bool} {db : DE} {s0 s1 s2 : SL} {a : List D} {l : Ss} (h : db (s0 :: s1 :: s2 :: .own (.lst a) :: l) μ fun y δ1 μ1 => EqNx neg 3 y δ1 μ1 Q) : dEqO neg 3 db (s0 :: s1 :: s2 :: .own (.lst a) :: l) μ Q := ⟨⟨a, rfl⟩, h⟩
theorem eoe_3 {neg : Bool} {y : D} {s0 s1 s2 : SL} {a : List D} {l : Ss} (h : EqV neg (.lst a) y μ fun d => Q d (s0 :: s1 :: s2 :: .own (.lst a) :: l) μ) : EqNx neg 3 y (s0 :: s1 :: s2 :: .own (.lst a) :: l) μ Q := ⟨a, rfl, h⟩
theorem lm_4 {lm : LM} {da : DA} {s0 s1 s2 s3 : SL} {a : List D} {l : Ss} (h : da (s0 :: s1 :: s2 :: s3 :: .own (.lst a) :: l) μ fun ds δ1 μ1 => LmNx lm 4 ds δ1 μ1 Q) : dLMO 4 lm da (s0 :: s1 :: s2 :: s3 :: .own (.lst a) :: l) μ Q := ⟨⟨a, rfl⟩, h⟩
theorem lme_4 {lm : LM} {ds : List D} {s0 s1 s2 s3 : SL} {a : List D} {l : Ss} (h : lm ds a μ fun d l2 => Q d (s0 :: s1 :: s2 :: s3 :: .own (.lst l2) :: l) μ) : LmNx lm 4 ds (s0 :: s1 :: s2 :: s3 :: .own (.lst a) :: l) μ Q := ⟨a, rfl, h⟩
theorem eo_4 {neg : Bool} {db : DE} {s0 s1 s2 s3 : SL} {a : List D} {l : Ss} (h : db (s0 :: s1 :: s2 :: s3 :: .own (.lst a) :: l) μ fun y δ1 μ1 => EqNx neg 4 y δ1 μ1 Q) : dEqO neg 4 db (s0 :: s1 :: s2 :: s3 :: .own (.lst a) :: l) μ Q := ⟨⟨a, rfl⟩, h⟩
theorem eoe_4 {neg : Bool} {y : D} {s0 s1 s2 s3 : SL} {a : List D} {l : Ss} (h : EqV neg (.lst a) y μ fun d => Q d (s0 :: s1 :: s2 :: s3 :: .own (.lst a) :: l) μ) : EqNx neg 4 y (s0 :: s1 :: s2 :: s3 :: .own (.lst a) :: l) μ Q := ⟨a, rfl, h⟩
theorem lm_5 {lm : LM} {da : DA} {s0 s1 s2 s3 s4 : SL} {a : List D} {l : Ss} (h : da (s0 :: s1 :: s2 :: s3 :: s4 :: .own (.lst a) :: l) μ fun ds δ1 μ1 => LmNx lm 5 ds δ1 μ1 Q) : dLMO 5 lm da (s0 :: s1 :: s2 :: s3 :: s4 :: .own (.lst a) :: l) μ Q := ⟨⟨a, rfl⟩, h⟩
theorem lme_5 {lm : LM} {ds : List D} {s0 s1 s2 s3 s4 : SL} {a : List D} {l : Ss} (h : lm ds a μ fun d l2 => Q d (s0 :: s1 :: s2 :: s3 :: s4 :: .own (.lst l2) :: l) μ) : LmNx lm 5 ds (s0 :: s1 :: s2 :: s3 :: s4 :: .own (.lst a) :: l) μ Q := ⟨a, rfl, h⟩
theorem eo_5 {neg : Bool} {db : DE} {s0 s1 s2 s3 s4 : SL} {a : List D} {l : Ss} (h : db (s0 :: s1 :: s2 :: s3 :: s4 :: .own (.lst a) :: l) μ fun y δ1 μ1 => EqNx neg 5 y δ1 μ1 Q) : dEqO neg 5 db (s0 :: s1 :: s2 :: s3 :: s4 :: .own (.lst a) :: l) μ Q := ⟨⟨a, rfl⟩, h⟩
theorem eoe_5 {neg : Bool} {y : D} {s0 s1 s2 s3 s4 : SL} {a : List D} {l : Ss} (h : EqV neg (.lst a) y μ fun d => Q d (s0 :: s1 :: s2 :: s3 :: s4 :: .own (.lst a) :: l) μ) : EqNx neg 5 y (s0 :: s1 :: s2 :: s3 :: s4 :: .own (.lst a) :: l) μ Q := ⟨a, rfl, h⟩
theorem lm_6 {lm : LM} {da : DA} {s0 s1 s2 s3 s4 s5 : SL} {a : List D} {l : Ss} (h : da (s0 :: s1 :: s2 :: s3 :: s4 :: s5 :: .own (.lst a) :: l) μ fun ds δ1 μ1 => LmNx lm 6 ds δ1 μ1 Q) : dLMO 6 lm da (s0 :: s1 :: s2 :: s3 :: s4 :: s5 :: .own (.lst a) :: l) μ Q := ⟨⟨a, rfl⟩, h⟩
theorem lme_6 {lm : LM} {ds : List D} {s0 s1 s2 s3 s4 s5 : SL} {a : List D} {l : Ss} (h : lm ds a μ fun d l2 => Q d (s0 :: s1 :: s2 :: s3 :: s4 :: s5 :: .own (.lst l2) :: l) μ) : LmNx lm 6 ds (s0 :: s1 :: s2 :: s3 :: s4 :: s5 :: .own (.lst a) :: l) μ Q := ⟨a, rfl, h⟩
theorem eo_6 {neg : Bool} {db : DE} {s0 s1 s2 s3 s4 s5 : SL} {a : List D} {l : Ss} (h : db (s0 :: s1 :: s2 :: s3 :: s4 :: s5 :: .own (.lst a) :: l) μ fun y δ1 μ1 => EqNx neg 6 y δ1 μ1 Q) : dEqO neg 6 db (s0 :: s1 :: s2 :: s3 :: s4 :: s5 :: .own (.lst a) :: l) μ Q := ⟨⟨a, rfl⟩, h⟩
theorem eoe_6 {neg : Bool} {y : D} {s0 s1 s2 s3 s4 s5 : SL} {a : List D} {l : Ss} (h : EqV neg (.lst a) y μ fun d => Q d (s0 :: s1 :: s2 :: s3 :: s4 :: s5 :: .own (.lst a) :: l) μ) : EqNx neg 6 y (s0 :: s1 :: s2 :: s3 :: s4 :: s5 :: .own (.lst a) :: l) μ Q := ⟨a, rfl, h⟩
theorem lm_7 {lm : LM} {da : DA} {s0 s1 s2 s3 s4 s5 s6 : SL} {a : List D} {l : Ss} (h : da (s0 :: s1 :: s2 :: s3 :: s4 :: s5 :: s6 :: .own (.lst a) :: l) μ fun ds δ1 μ1 => LmNx lm 7 ds δ1 μ1 Q) : dLMO 7 lm da (s0 :: s1 :: s2 :: s3 :: s4 :: s5 :: s6 :: .own (.lst a) :: l) μ Q := ⟨⟨a, rfl⟩, h⟩
theorem lme_7 {lm : LM} {ds : List D} {s0 s1 s2 s3 s4 s5 s6 : SL} {a : List D} {l : Ss} (h : lm ds a μ fun d l2 => Q d (s0 :: s1 :: s2 :: s3 :: s4 :: s5 :: s6 :: .own (.lst l2) :: l) μ) : LmNx lm 7 ds (s0 :: s1 :: s2 :: s3 :: s4 :: s5 :: s6 :: .own (.lst a) :: l) μ Q := ⟨a, rfl, h⟩
theorem eo_7 {neg : Bool} {db : DE} {s0 s1 s2 s3 s4 s5 s6 : SL} {a : List D} {l : Ss} (h : db (s0 :: s1 :: s2 :: s3 :: s4 :: s5 :: s6 :: .own (.lst a) :: l) μ fun y δ1 μ1 => EqNx neg 7 y δ1 μ1 Q) : dEqO neg 7 db (s0 :: s1 :: s2 :: s3 :: s4 :: s5 :: s6 :: .own (.lst a) :: l) μ Q := ⟨⟨a, rfl⟩, h⟩
theorem eoe_7 {neg : Bool} {y : D} {s0 s1 s2 s3 s4 s5 s6 : SL} {a : List D} {l : Ss} (h : EqV neg (.lst a) y μ fun d => Q d (s0 :: s1 :: s2 :: s3 :: s4 :: s5 :: s6 :: .own (.lst a) :: l) μ) : EqNx neg 7 y (s0 :: s1 :: s2 :: s3 :: s4 :: s5 :: s6 :: .own (.lst a) :: l) μ Q := ⟨a, rfl, h⟩
theorem lm_8 {lm : LM} {da : DA} {s0 s1 s2 s3 s4 s5 s6 s7 : SL} {a : List D} {l : Ss} (h : da (s0 :: s1 :: s2 :: s3 :: s4 :: s5 :: s6 :: s7 :: .own (.lst a) :: l) μ fun ds δ1 μ1 => LmNx lm 8 ds δ1 μ1 Q) : dLMO 8 lm da (s0 :: s1 :: s2 :: s3 :: s4 :: s5 :: s6 :: s7 :: .own (.lst a) :: l) μ Q := ⟨⟨a, rfl⟩, h⟩
theorem lme_8 {lm : LM} {ds : List D} {s0 s1 s2 s3 s4 s5 s6 s7 : SL} {a : List D} {l : Ss} (h : lm ds a μ fun d l2 => Q d (s0 :: s1 :: s2 :: s3 :: s4 :: s5 :: s6 :: s7 :: .own (.lst l2) :: l) μ) : LmNx lm 8 ds (s0 :: s1 :: s2 :: s3 :: s4 :: s5 :: s6 :: s7 :: .own (.lst a) :: l) μ Q := ⟨a, rfl, h⟩
theorem eo_8 {neg : Bool} {db : DE} {s0 s1 s2 s3 s4 s5 s6 s7 : SL} {a : List D} {l : Ss} (h : db (s0 :: s1 :: s2 :: s3 :: s4 :: s5 :: s6 :: s7 :: .own (.lst a) :: l) μ fun y δ1 μ1 => EqNx neg 8 y δ1 μ1 Q) : dEqO neg 8 db (s0 :: s1 :: s2 :: s3 :: s4 :: s5 :: s6 :: s7 :: .own (.lst a) :: l) μ Q := ⟨⟨a, rfl⟩, h⟩
theorem eoe_8 {neg : Bool} {y : D} {s0 s1 s2 s3 s4 s5 s6 s7 : SL} {a : List D} {l : Ss} (h : EqV neg (.lst a) y μ fun d => Q d (s0 :: s1 :: s2 :: s3 :: s4 :: s5 :: s6 :: s7 :: .own (.lst a) :: l) μ) : EqNx neg 8 y (s0 :: s1 :: s2 :: s3 :: s4 :: s5 :: s6 :: s7 :: .own (.lst a) :: l) μ Q := ⟨a, rfl, h⟩
theorem lm_9 {lm : LM} {da : DA} {s0 s1 s2 s3 s4 s5 s6 s7 s8 : SL} {a : List D} {l : Ss} (h : da (s0 :: s1 :: s2 :: s3 :: s4 :: s5 :: s6 :: s7 :: s8 :: .own (.lst a) :: l) μ fun ds δ1 μ1 => LmNx lm 9 ds δ1 μ1 Q) : dLMO 9 lm da (s0 :: s1 :: s2 :: s3 :: s4 :: s5 :: s6 :: s7 :: s8 :: .own (.lst a) :: l) μ Q := ⟨⟨a, rfl⟩, h⟩
theorem lme_9 {lm : LM} {ds : List D} {s0 s1 s2 s3 s4 s5 s6 s7 s8 : SL} {a : List D} {l : Ss} (h : lm ds a μ fun d l2 => Q d (s0 :: s1 :: s2 :: s3 :: s4 :: s5 :: s6 :: s7 :: s8 :: .own (.lst l2) :: l) μ) : LmNx lm 9 ds (s0 :: s1 :: s2 :: s3 :: s4 :: s5 :: s6 :: s7 :: s8 :: .own (.lst a) :: l) μ Q := ⟨a, rfl, h⟩
theorem eo_9 {neg : Bool} {db : DE} {s0 s1 s2 s3 s4 s5 s6 s7 s8 : SL} {a : List D} {l : Ss} (h : db (s0 :: s1 :: s2 :: s3 :: s4 :: s5 :: s6 :: s7 :: s8 :: .own (.lst a) :: l) μ fun y δ1 μ1 => EqNx neg 9 y δ1 μ1 Q) : dEqO neg 9 db (s0 :: s1 :: s2 :: s3 :: s4 :: s5 :: s6 :: s7 :: s8 :: .own (.lst a) :: l) μ Q := ⟨⟨a, rfl⟩, h⟩
theorem eoe_9 {neg : Bool} {y : D} {s0 s1 s2 s3 s4 s5 s6 s7 s8 : SL} {a : List D} {l : Ss} (h : EqV neg (.lst a) y μ fun d => Q d (s0 :: s1 :: s2 :: s3 :: s4 :: s5 :: s6 :: s7 :: s8 :: .own (.lst a) :: l) μ) : EqNx neg 9 y (s0 :: s1 :: s2 :: s3 :: s4 :: s5 :: s6 :: s7 :: s8 :: .own (.lst a) :: l) μ Q := ⟨a, rfl, h⟩
theorem lm_10 {lm : LM} {da : DA} {s0 s1 s2 s3 s4 s5 s6 s7 s8 s9 : SL} {a : List D} {l : Ss} (h : da (s0 :: s1 :: s2 :: s3 :: s4 :: s5 :: s6 :: s7 :: s8 :: s9 :: .own (.lst a) :: l) μ fun ds δ1 μ1 => LmNx lm 10 ds δ1 μ1 Q) : dLMO 10 lm da (s0 :: s1 :: s2 :: s3 :: s4 :: s5 :: s6 :: s7 :: s8 :: s9 :: .own (.lst a) :: l) μ Q := ⟨⟨a, rfl⟩, h⟩
theorem lme_10 {lm : LM} {ds : List D} {s0 s1 s2 s3 s4 s5 s6 s7 s8 s9 : SL} {a : List D} {l : Ss} (h : lm ds a μ fun d l2 => Q d (s0 :: s1 :: s2 :: s3 :: s4 :: s5 :: s6 :: s7 :: s8 :: s9 :: .own (.lst l2) :: l) μ) : LmNx lm 10 ds (s0 :: s1 :: s2 :: s3 :: s4 :: s5 :: s6 :: s7 :: s8 :: s9 :: .own (.lst a) :: l) μ Q := ⟨a, rfl, h⟩
theorem eo_10 {neg : Bool} {db : DE} {s0 s1 s2 s3 s4 s5 s6 s7 s8 s9 : SL} {a : List D} {l : Ss} (h : db (s0 :: s1 :: s2 :: s3 :: s4 :: s5 :: s6 :: s7 :: s8 :: s9 :: .own (.lst a) :: l) μ fun y δ1 μ1 => EqNx neg 10 y δ1 μ1 Q) : dEqO neg 10 db (s0 :: s1 :: s2 :: s3 :: s4 :: s5 :: s6 :: s7 :: s8 :: s9 :: .own (.lst a) :: l) μ Q := ⟨⟨a, rfl⟩, h⟩
theorem eoe_10 {neg : Bool} {y : D} {s0 s1 s2 s3 s4 s5 s6 s7 s8 s9 : SL} {a : List D} {l : Ss} (h : EqV neg (.lst a) y μ fun d => Q d (s0 :: s1 :: s2 :: s3 :: s4 :: s5 :: s6 :: s7 :: s8 :: s9 :: .own (.lst a) :: l) μ) : EqNx neg 10 y (s0 :: s1 :: s2 :: s3 :: s4 :: s5 :: s6 :: s7 :: s8 :: s9 :: .own (.lst a) :: l) μ Q := ⟨a, rfl, h⟩
theorem lm_11 {lm : LM} {da : DA} {s0 s1 s2 s3 s4 s5 s6 s7 s8 s9 s10 : SL} {a : List D} {l : Ss} (h : da (s0 :: s1 :: s2 :: s3 :: s4 :: s5 :: s6 :: s7 :: s8 :: s9 :: s10 :: .own (.lst a) :: l) μ fun ds δ1 μ1 => LmNx lm 11 ds δ1 μ1 Q) : dLMO 11 lm da (s0 :: s1 :: s2 :: s3 :: s4 :: s5 :: s6 :: s7 :: s8 :: s9 :: s10 :: .own (.lst a) :: l) μ Q := ⟨⟨a, rfl⟩, h⟩
theorem lme_11 {lm : LM} {ds : List D} {s0 s1 s2 s3 s4 s5 s6 s7 s8 s9 s10 : SL} {a : List D} {l : Ss} (h : lm ds a μ fun d l2 => Q d (s0 :: s1 :: s2 :: s3 :: s4 :: s5 :: s6 :: s7 :: s8 :: s9 :: s10 :: .own (.lst l2) :: l) μ) : LmNx lm 11 ds (s0 :: s1 :: s2 :: s3 :: s4 :: s5 :: s6 :: s7 :: s8 :: s9 :: s10 :: .own (.lst a) :: l) μ Q := ⟨a, rfl, h⟩
theorem eo_11 {neg : Bool} {db : DE} {s0 s1 s2 s3 s4 s5 s6 s7 s8 s9 s10 : SL} {a : List D} {l : Ss} (h : db (s0 :: s1 :: s2 :: s3 :: s4 :: s5 :: s6 :: s7 :: s8 :: s9 :: s10 :: .own (.lst a) :: l) μ fun y δ1 μ1 => EqNx neg 11 y δ1 μ1 Q) : dEqO neg 11 db (s0 :: s1 :: s2 :: s3 :: s4 :: s5 :: s6 :: s7 :: s8 :: s9 :: s10 :: .own (.lst a) :: l) μ Q := ⟨⟨a, rfl⟩, h⟩
theorem eoe_11 {neg : Bool} {y : D} {s0 s1 s2 s3 s4 s5 s6 s7 s8 s9 s10 : SL} {a : List D} {l : Ss} (h : EqV neg (.lst a) y μ fun d => Q d (s0 :: s1 :: s2 :: s3 :: s4 :: s5 :: s6 :: s7 :: s8 :: s9 :: s10 :: .own (.lst a) :: l) μ) : EqNx neg 11 y (s0 :: s1 :: s2 :: s3 :: s4 :: s5 :: s6 :: s7 :: s8 :: s9 :: s10 :: .own (.lst a) :: l) μ Q := ⟨a, rfl, h⟩
theorem atI_nat {l : List D} {i : Nat} {d : D} (h : l[i]? = some d) : atI l ((i : Nat) : Int) = some d := by
  have hi : i < l.length := (List.getElem?_eq_some_iff.mp h).1
  unfold L2.atI ixN
  rw [if_pos (by omega), if_pos (by omega)]
  simpa using h
theorem atI_int {l : List D} {i : Int} (h0 : 0 ≤ i) (h1 : i < l.length) : ∃ d, d ∈ l ∧ atI l i = some d := by
  obtain ⟨n, rfl⟩ := Int.eq_ofNat_of_zero_le h0
  have hn : n < l.length := by omega
  exact ⟨l[n], List.getElem_mem hn, atI_nat (by simp [hn])⟩
theorem ixl_0 {d : D} {r : List D} (h : QM' d μ) : rdIx (.lst (d :: r)) (.int 0) μ QM' := ⟨0, rfl, .inl ⟨_, d, rfl, atI_nat (i := 0) rfl, h⟩⟩
theorem ixt_0 {d : D} {r : List D} (h : QM' d μ) : rdIx (.tup (d :: r)) (.int 0) μ QM' := ⟨0, rfl, .inl ⟨_, d, rfl, atI_nat (i := 0) rfl, h⟩⟩
theorem ixl_1 {b0 : D} {d : D} {r : List D} (h : QM' d μ) : rdIx (.lst (b0 :: d :: r)) (.int 1) μ QM' := ⟨1, rfl, .inl ⟨_, d, rfl, atI_nat (i := 1) rfl, h⟩⟩
theorem ixt_1 {b0 : D} {d : D} {r : List D} (h : QM' d μ) : rdIx (.tup (b0 :: d :: r)) (.int 1) μ QM' := ⟨1, rfl, .inl ⟨_, d, rfl, atI_nat (i := 1) rfl, h⟩⟩
theorem ixl_2 {b0 b1 : D} {d : D} {r : List D} (h : QM' d μ) : rdIx (.lst (b0 :: b1 :: d :: r)) (.int 2) μ QM' := ⟨2, rfl, .inl ⟨_, d, rfl, atI_nat (i := 2) rfl, h⟩⟩
theorem ixt_2 {b0 b1 : D} {d : D} {r : List D} (h : QM' d μ) : rdIx (.tup (b0 :: b1 :: d :: r)) (.int 2) μ QM' := ⟨2, rfl, .inl ⟨_, d, rfl, atI_nat (i := 2) rfl, h⟩⟩
theorem ixl_3 {b0 b1 b2 : D} {d : D} {r : List D} (h : QM' d μ) : rdIx (.lst (b0 :: b1 :: b2 :: d :: r)) (.int 3) μ QM' := ⟨3, rfl, .inl ⟨_, d, rfl, atI_nat (i := 3) rfl, h⟩⟩
theorem ixt_3 {b0 b1 b2 : D} {d : D} {r : List D} (h : QM' d μ) : rdIx (.tup (b0 :: b1 :: b2 :: d :: r)) (.int 3) μ QM' := ⟨3, rfl, .inl ⟨_, d, rfl, atI_nat (i := 3) rfl, h⟩⟩
theorem ixl_4 {b0 b1 b2 b3 : D} {d : D} {r : List D} (h : QM' d μ) : rdIx (.lst (b0 :: b1 :: b2 :: b3 :: d :: r)) (.int 4) μ QM' := ⟨4, rfl, .inl ⟨_, d, rfl, atI_nat (i := 4) rfl, h⟩⟩
theorem ixt_4 {b0 b1 b2 b3 : D} {d : D} {r : List D} (h : QM' d μ) : rdIx (.tup (b0 :: b1 :: b2 :: b3 :: d :: r)) (.int 4) μ QM' := ⟨4, rfl, .inl ⟨_, d, rfl, atI_nat (i := 4) rfl, h⟩⟩
theorem ixl_5 {b0 b1 b2 b3 b4 : D} {d : D} {r : List D} (h : QM' d μ) : rdIx (.lst (b0 :: b1 :: b2 :: b3 :: b4 :: d :: r)) (.int 5) μ QM' := ⟨5, rfl, .inl ⟨_, d, rfl, atI_nat (i := 5) rfl, h⟩⟩
theorem ixt_5 {b0 b1 b2 b3 b4 : D} {d : D} {r : List D} (h : QM' d μ) : rdIx (.tup (b0 :: b1 :: b2 :: b3 :: b4 :: d :: r)) (.int 5) μ QM' := ⟨5, rfl, .inl ⟨_, d, rfl, atI_nat (i := 5) rfl, h⟩⟩
theorem ixl_6 {b0 b1 b2 b3 b4 b5 : D} {d : D} {r : List D} (h : QM' d μ) : rdIx (.lst (b0 :: b1 :: b2 :: b3 :: b4 :: b5 :: d :: r)) (.int 6) μ QM' := ⟨6, rfl, .inl ⟨_, d, rfl, atI_nat (i := 6) rfl, h⟩⟩
theorem ixt_6 {b0 b1 b2 b3 b4 b5 : D} {d : D} {r : List D} (h : QM' d μ) : rdIx (.tup (b0 :: b1 :: b2 :: b3 :: b4 :: b5 :: d :: r)) (.int 6) μ QM' := ⟨6, rfl, .inl ⟨_, d, rfl, atI_nat (i := 6) rfl, h⟩⟩
theorem ixl_7 {b0 b1 b2 b3 b4 b5 b6 : D} {d : D} {r : List D} (h : QM' d μ) : rdIx (.lst (b0 :: b1 :: b2 :: b3 :: b4 :: b5 :: b6 :: d :: r)) (.int 7) μ QM' := ⟨7, rfl, .inl ⟨_, d, rfl, atI_nat (i := 7) rfl, h⟩⟩
theorem ixt_7 {b0 b1 b2 b3 b4 b5 b6 : D} {d : D} {r : List D} (h : QM' d μ) : rdIx (.tup (b0 :: b1 :: b2 :: b3 :: b4 :: b5 :: b6 :: d :: r)) (.int 7) μ QM' := ⟨7, rfl, .inl ⟨_, d, rfl, atI_nat (i := 7) rfl, h⟩⟩
theorem ixl_8 {b0 b1 b2 b3 b4 b5 b6 b7 : D} {d : D} {r : List D} (h : QM' d μ) : rdIx (.lst (b0 :: b1 :: b2 :: b3 :: b4 :: b5 :: b6 :: b7 :: d :: r)) (.int 8) μ QM' := ⟨8, rfl, .inl ⟨_, d, rfl, atI_nat (i := 8) rfl, h⟩⟩
theorem ixt_8 {b0 b1 b2 b3 b4 b5 b6 b7 : D} {d : D} {r : List D} (h : QM' d μ) : rdIx (.tup (b0 :: b1 :: b2 :: b3 :: b4 :: b5 :: b6 :: b7 :: d :: r)) (.int 8) μ QM' := ⟨8, rfl, .inl ⟨_, d, rfl, atI_nat (i := 8) rfl, h⟩⟩
theorem ixl_9 {b0 b1 b2 b3 b4 b5 b6 b7 b8 : D} {d : D} {r : List D} (h : QM' d μ) : rdIx (.lst (b0 :: b1 :: b2 :: b3 :: b4 :: b5 :: b6 :: b7 :: b8 :: d :: r)) (.int 9) μ QM' := ⟨9, rfl, .inl ⟨_, d, rfl, atI_nat (i := 9) rfl, h⟩⟩
theorem ixt_9 {b0 b1 b2 b3 b4 b5 b6 b7 b8 : D} {d : D} {r : List D} (h : QM' d μ) : rdIx (.tup (b0 :: b1 :: b2 :: b3 :: b4 :: b5 :: b6 :: b7 :: b8 :: d :: r)) (.int 9) μ QM' := ⟨9, rfl, .inl ⟨_, d, rfl, atI_nat (i := 9) rfl, h⟩⟩
theorem cutk_1 {b0 : D} {r : List D} : Dl.cutD (b0 :: r) none (some 1) = [b0] := by
  have e : HT.sIx (b0 :: r).length (b0 :: r).length (some ((1 : Nat) : Int)) = 1 := by rw [HT.sIx_nat]; simp only [List.length_cons]; omega
  unfold Dl.cutD
  rw [show (some (1 : Int)) = some ((1 : Nat) : Int) from rfl, e]
  rfl
theorem slt_1 {b0 : D} {r : List D} (h : QM' (.tup [b0]) μ) : rdSl (.tup (b0 :: r)) none (some 1) μ QM' := i_slT (by rw [cutk_1]; exact h)
theorem cutk_2 {b0 b1 : D} {r : List D} : Dl.cutD (b0 :: b1 :: r) none (some 2) = [b0, b1] := by
  have e : HT.sIx (b0 :: b1 :: r).length (b0 :: b1 :: r).length (some ((2 : Nat) : Int)) = 2 := by rw [HT.sIx_nat]; simp only [List.length_cons]; omega
  unfold Dl.cutD
  rw [show (some (2 : Int)) = some ((2 : Nat) : Int) from rfl, e]
  rfl
theorem slt_2 {b0 b1 : D} {r : List D} (h : QM' (.tup [b0, b1]) μ) : rdSl (.tup (b0 :: b1 :: r)) none (some 2) μ QM' := i_slT (by rw [cutk_2]; exact h)
theorem cutk_3 {b0 b1 b2 : D} {r : List D} : Dl.cutD (b0 :: b1 :: b2 :: r) none (some 3) = [b0, b1, b2] := by
  have e : HT.sIx (b0 :: b1 :: b2 :: r).length (b0 :: b1 :: b2 :: r).length (some ((3 : Nat) : Int)) = 3 := by rw [HT.sIx_nat]; simp only [List.length_cons]; omega
  unfold Dl.cutD
  rw [show (some (3 : Int)) = some ((3 : Nat) : Int) from rfl, e]
  rfl
theorem slt_3 {b0 b1 b2 : D} {r : List D} (h : QM' (.tup [b0, b1, b2]) μ) : rdSl (.tup (b0 :: b1 :: b2 :: r)) none (some 3) μ QM' := i_slT (by rw [cutk_3]; exact h)
theorem cutk_4 {b0 b1 b2 b3 : D} {r : List D} : Dl.cutD (b0 :: b1 :: b2 :: b3 :: r) none (some 4) = [b0, b1, b2, b3] := by
  have e : HT.sIx (b0 :: b1 :: b2 :: b3 :: r).length (b0 :: b1 :: b2 :: b3 :: r).length (some ((4 : Nat) : Int)) = 4 := by rw [HT.sIx_nat]; simp only [List.length_cons]; omega
  unfold Dl.cutD
  rw [show (some (4 : Int)) = some ((4 : Nat) : Int) from rfl, e]
  rfl
theorem slt_4 {b0 b1 b2 b3 : D} {r : List D} (h : QM' (.tup [b0, b1, b2, b3]) μ) : rdSl (.tup (b0 :: b1 :: b2 :: b3 :: r)) none (some 4) μ QM' := i_slT (by rw [cutk_4]; exact h)
theorem cutk_5 {b0 b1 b2 b3 b4 : D} {r : List D} : Dl.cutD (b0 :: b1 :: b2 :: b3 :: b4 :: r) none (some 5) = [b0, b1, b2, b3, b4] := by
  have e : HT.sIx (b0 :: b1 :: b2 :: b3 :: b4 :: r).length (b0 :: b1 :: b2 :: b3 :: b4 :: r).length (some ((5 : Nat) : Int)) = 5 := by rw [HT.sIx_nat]; simp only [List.length_cons]; omega
  unfold Dl.cutD
  rw [show (some (5 : Int)) = some ((5 : Nat) : Int) from rfl, e]
  rfl
theorem slt_5 {b0 b1 b2 b3 b4 : D} {r : List D} (h : QM' (.tup [b0, b1, b2, b3, b4]) μ) : rdSl (.tup (b0 :: b1 :: b2 :: b3 :: b4 :: r)) none (some 5) μ QM' := i_slT (by rw [cutk_5]; exact h)
theorem atI_last {l : List D} {d : D} (h : l.getLast? = some d) : atI l (-1) = some d := by
  have hl : 0 < l.length := by cases l with | nil => cases h | cons a l => simp
  unfold L2.atI ixN
  rw [if_neg (by omega), if_pos (by omega)]
  rw [List.getLast?_eq_getElem?] at h
  show l[((l.length : Int) + -1).toNat]? = some d
  rw [show ((l.length : Int) + -1).toNat = l.length - 1 by omega]
  exact h
theorem pw_10_2 (h : QM' (.int 100) μ) : rdPow (.int 10) (.int 2) μ QM' := ⟨10, 2, rfl, rfl, ⟨by decide, by decide, by decide⟩, h⟩
theorem pw_10_3 (h : QM' (.int 1000) μ) : rdPow (.int 10) (.int 3) μ QM' := ⟨10, 3, rfl, rfl, ⟨by decide, by decide, by decide⟩, h⟩
theorem pw_10_4 (h : QM' (.int 10000) μ) : rdPow (.int 10) (.int 4) μ QM' := ⟨10, 4, rfl, rfl, ⟨by decide, by decide, by decide⟩, h⟩
theorem pw_10_5 (h : QM' (.int 100000) μ) : rdPow (.int 10) (.int 5) μ QM' := ⟨10, 5, rfl, rfl, ⟨by decide, by decide, by decide⟩, h⟩
theorem pw_10_6 (h : QM' (.int 1000000) μ) : rdPow (.int 10) (.int 6) μ QM' := ⟨10, 6, rfl, rfl, ⟨by decide, by decide, by decide⟩, h⟩
theorem pw_10_7 (h : QM' (.int 10000000) μ) : rdPow (.int 10) (.int 7) μ QM' := ⟨10, 7, rfl, rfl, ⟨by decide, by decide, by decide⟩, h⟩
theorem pw_10_8 (h : QM' (.int 100000000) μ) : rdPow (.int 10) (.int 8) μ QM' := ⟨10, 8, rfl, rfl, ⟨by decide, by decide, by decide⟩, h⟩
theorem pw_10_9 (h : QM' (.int 1000000000) μ) : rdPow (.int 10) (.int 9) μ QM' := ⟨10, 9, rfl, rfl, ⟨by decide, by decide, by decide⟩, h⟩
theorem pw_10_10 (h : QM' (.int 10000000000) μ) : rdPow (.int 10) (.int 10) μ QM' := ⟨10, 10, rfl, rfl, ⟨by decide, by decide, by decide⟩, h⟩
theorem pw_10_11 (h : QM' (.int 100000000000) μ) : rdPow (.int 10) (.int 11) μ QM' := ⟨10, 11, rfl, rfl, ⟨by decide, by decide, by decide⟩, h⟩
theorem pw_10_12 (h : QM' (.int 1000000000000) μ) : rdPow (.int 10) (.int 12) μ QM' := ⟨10, 12, rfl, rfl, ⟨by decide, by decide, by decide⟩, h⟩
theorem pw_10_13 (h : QM' (.int 10000000000000) μ) : rdPow (.int 10) (.int 13) μ QM' := ⟨10, 13, rfl, rfl, ⟨by decide, by decide, by decide⟩, h⟩
theorem pw_10_14 (h : QM' (.int 100000000000000) μ) : rdPow (.int 10) (.int 14) μ QM' := ⟨10, 14, rfl, rfl, ⟨by decide, by decide, by decide⟩, h⟩
theorem pw_10_15 (h : QM' (.int 1000000000000000) μ) : rdPow (.int 10) (.int 15) μ QM' := ⟨10, 15, rfl, rfl, ⟨by decide, by decide, by decide⟩, h⟩
theorem pw_10_16 (h : QM' (.int 10000000000000000) μ) : rdPow (.int 10) (.int 16) μ QM' := ⟨10, 16, rfl, rfl, ⟨by decide, by decide, by decide⟩, h⟩
theorem pw_10_17 (h : QM' (.int 100000000000000000) μ) : rdPow (.int 10) (.int 17) μ QM' := ⟨10, 17, rfl, rfl, ⟨by decide, by decide, by decide⟩, h⟩
theorem pw_10_18 (h : QM' (.int 1000000000000000000) μ) : rdPow (.int 10) (.int 18) μ QM' := ⟨10, 18, rfl, rfl, ⟨by decide, by decide, by decide⟩, h⟩
theorem pw_10_19 (h : QM' (.int 10000000000000000000) μ) : rdPow (.int 10) (.int 19) μ QM' := ⟨10, 19, rfl, rfl, ⟨by decide, by decide, by decide⟩, h⟩
theorem pw_10_20 (h : QM' (.int 100000000000000000000) μ) : rdPow (.int 10) (.int 20) μ QM' := ⟨10, 20, rfl, rfl, ⟨by decide, by decide, by decide⟩, h⟩
theorem pw_10_21 (h : QM' (.int 1000000000000000000000) μ) : rdPow (.int 10) (.int 21) μ QM' := ⟨10, 21, rfl, rfl, ⟨by decide, by decide, by decide⟩, h⟩
theorem pw_10_22 (h : QM' (.int 10000000000000000000000) μ) : rdPow (.int 10) (.int 22) μ QM' := ⟨10, 22, rfl, rfl, ⟨by decide, by decide, by decide⟩, h⟩
theorem pw_10_24 (h : QM' (.int 1000000000000000000000000) μ) : rdPow (.int 10) (.int 24) μ QM' := ⟨10, 24, rfl, rfl, ⟨by decide, by decide, by decide⟩, h⟩
theorem pw_10_25 (h : QM' (.int 10000000000000000000000000) μ) : rdPow (.int 10) (.int 25) μ QM' := ⟨10, 25, rfl, rfl, ⟨by decide, by decide, by decide⟩, h⟩
theorem pw_10_27 (h : QM' (.int 1000000000000000000000000000) μ) : rdPow (.int 10) (.int 27) μ QM' := ⟨10, 27, rfl, rfl, ⟨by decide, by decide, by decide⟩, h⟩
theorem pw_10_30 (h : QM' (.int 1000000000000000000000000000000) μ) : rdPow (.int 10) (.int 30) μ QM' := ⟨10, 30, rfl, rfl, ⟨by decide, by decide, by decide⟩, h⟩
/-! ### the end -/
theorem law_facts {P : Program} {w : World} {mg : Str → Option Value} {k : Nat} {x y : Str} {dsp : DSp} {f : Addr} (hfa : mg y = some (.ref f)) (h : ∀ base : Heap, Cal0 P w K mg base k y [x] dsp) (h0 : Heap) :
    ∃ fd : FuncData, (∀ (s : Shared) (v : Value), BindsTo s fd ⟨[v], []⟩ [(x, v)]) ∧ ∀ base : Heap, FnG P w K mg base CX0 k f fd [x] (up K dsp) := by
  obtain ⟨f1, fd, _, m1, b1, oc, od, osl, l1⟩ := (h h0).ex
  refine ⟨fd, fun s v => b1 s [v] rfl, fun base => ?_⟩
  obtain ⟨f2, fd2, G, m2, _, oc2, od2, osl2, l2⟩ := (h base).ex
  have e1 := hfa.symm.trans m1
  have e2 := hfa.symm.trans m2
  cases e1
  cases e2
  rw [l1] at l2
  cases l2
  exact G
theorem len1 {α : Type} {l : List α} (h : l.length = 1) : ∃ a, l = [a] := match l, h with | [a], _ => ⟨a, rfl⟩
theorem len2 {α : Type} {l : List α} (h : l.length = 2) : ∃ a b, l = [a, b] := match l, h with | [a, b], _ => ⟨a, b, rfl⟩
theorem len3 {α : Type} {l : List α} (h : l.length = 3) : ∃ a b c, l = [a, b, c] := match l, h with | [a, b, c], _ => ⟨a, b, c, rfl⟩
def noMetO : Option HO → Option HO
  | some (.met _ _) => none
  | some (.tbl _) => none
  | o => o
theorem noMetO_some {o : Option HO} {u : HO} (h : noMetO o = some u) : o = some u ∧ notMet u := by
  cases o with
  | none => cases h
  | some x => cases x <;> first | (cases h; done) | (cases h; exact ⟨rfl, trivial⟩)
theorem at_script {H : Hp} {a : Addr} {ns : List Int} {dsp : DSp} (hl : ns.length ≤ 63) (hT : ∀ p ∈ tabC K, H p.2 = some (.tbl #[])) (hS : SqL K H a (ns.map V.int)) (h : dsp [.scr (ns.map .int)] (fun _ => none) (fun d _ => d = .bl true) X0) : up K dsp [.ref a] H (fun v _ => v = .bl true) fun _ _ _ => False := by
  have tT : ∀ q ∈ tabList K, H q.1 = some (.tbl #[]) := fun q hq => by
    obtain ⟨p, hp, e⟩ := nm_at hq
    rw [← e]; exact hT p hp
  refine ⟨fun b => if b = a then noMetO (H a) else none, fun _ => none, [.scr (ns.map .int)], fun d _ => d = .bl true, X0, ⟨fun b u e => ?_, (fun _ _ e => nomatch e), ⟨fun q hq => ⟨?_, rfl, LamX.TabS.nil (tT q hq)⟩⟩⟩, ⟨.ref a, [], rfl, ⟨a, ns.map V.int, rfl, ?_, RepL.ints⟩, rfl⟩, h, fun S' μ' H' v d _ _ hv e => ?_, fun _ _ _ _ _ _ _ _ _ z => z⟩
  · have e : (if b = a then noMetO (H a) else none) = some u := e
    split at e
    · rename_i hb; subst hb; exact .inl (noMetO_some e)
    · cases e
  · by_cases e : q.1 = a
    · have e2 := tT q hq
      rw [e] at e2
      show (if q.1 = a then noMetO (H a) else none) = none
      rw [e2, if_pos e]; rfl
    · exact if_neg e
  · rcases hS with (h | ⟨o, h⟩) | h
    · exact .inl (.inl (by dsimp only; rw [if_pos rfl, h]; rfl))
    · exact .inl (.inr ⟨o, by dsimp only; rw [if_pos rfl, h]; rfl⟩)
    · exact .inr h
  · subst e; exact hv
class Step (P : Prop) (P2 : outParam Prop) : Prop where
  go : P2 → P
theorem Step.by {P P2 : Prop} [s : Step P P2] (h : P2) : P := s.go h
instance st_i_seq {t u : DS} : Step (dSeq t u ⟨nx, rt, bk, ct⟩ δ μ) (t ⟨u ⟨nx, rt, bk, ct⟩, rt, bk, ct⟩ δ μ) := ⟨fun h => i_seq h⟩
instance st_i_next : Step (dNext ⟨nx, rt, bk, ct⟩ δ μ) (nx δ μ) := ⟨fun h => i_next h⟩
instance st_i_break : Step (dBreak ⟨nx, rt, bk, ct⟩ δ μ) (bk δ μ) := ⟨fun h => i_break h⟩
instance st_i_cont : Step (dCont ⟨nx, rt, bk, ct⟩ δ μ) (ct δ μ) := ⟨fun h => i_cont h⟩
instance st_i_set {i : Nat} {de : DE} : Step (dSet i de ⟨nx, rt, bk, ct⟩ δ μ) (de δ μ fun d δ1 μ1 => nxSet nx i (.val d) δ1 μ1) := ⟨fun h => i_set h⟩
instance st_i_own {i : Nat} {df : DF} : Step (dOwn i df ⟨nx, rt, bk, ct⟩ δ μ) (df δ μ fun m δ1 μ1 => nxSet nx i (.own m) δ1 μ1) := ⟨fun h => i_own h⟩
instance st_i_asg {de : DE} {g : DG} : Step (dAsg de g ⟨nx, rt, bk, ct⟩ δ μ) (de δ μ fun d δ1 μ1 => g d δ1 μ1 nx) := ⟨fun h => i_asg h⟩
instance st_i_gname {i : Nat} {d : D} {R : Ss → Mem → Prop} : Step (gdName i d δ μ R) (nxSet R i (.val d) δ μ) := ⟨fun h => i_gname h⟩
instance st_i_gcons {t : DG} {u : DGs} {d : D} {r : List D} {R : Ss → Mem → Prop} : Step (gdCons t u (d :: r) δ μ R) (t d δ μ fun δ' μ' => u r δ' μ' R) := ⟨fun h => i_gcons h⟩
instance st_i_gnil {R : Ss → Mem → Prop} : Step (gdNil [] δ μ R) (R δ μ) := ⟨fun h => i_gnil h⟩
instance st_i_drop {de : DE} : Step (dDrop de ⟨nx, rt, bk, ct⟩ δ μ) (de δ μ fun _ δ1 μ1 => nx δ1 μ1) := ⟨fun h => i_drop h⟩
instance st_i_ret {de : DE} : Step (dRet de ⟨nx, rt, bk, ct⟩ δ μ) (de δ μ fun d _ μ1 => rt d μ1) := ⟨fun h => i_ret h⟩
instance st_i_retN : Step (dRetN ⟨nx, rt, bk, ct⟩ δ μ) (rt .non μ) := ⟨fun h => i_retN h⟩
instance st_i_ifs {c : DT} {t u : DS} : Step (dIfS c t u ⟨nx, rt, bk, ct⟩ δ μ) (c δ μ fun b δ1 μ1 => if b = true then t ⟨nx, rt, bk, ct⟩ δ1 μ1 else u ⟨nx, rt, bk, ct⟩ δ1 μ1) := ⟨fun h => i_ifs h⟩
instance st_i_C {d : D} : Step (dC d δ μ Q) (Q d δ μ) := ⟨fun h => i_C h⟩
instance st_i_op {dr : DR} {da db : DE} : Step (dOp dr da db δ μ Q) (da δ μ fun x δ1 μ1 => db δ1 μ1 fun y δ2 μ2 => dr x y μ2 fun d μ3 => Q d δ2 μ3) := ⟨fun h => i_op h⟩
instance st_i_chain {r r' : DR} {da db dc : DE} : Step (dChain r r' da db dc δ μ Q) (da δ μ fun x δ1 μ1 => db δ1 μ1 fun y δ2 μ2 => r x y μ2 fun z μ3 => ∃ k, z = .bl k ∧ (if k = true then dc δ2 μ3 fun w δ4 μ4 => r' y w μ4 fun d μ5 => Q d δ4 μ5 else Q (.bl false) δ2 μ3)) := ⟨fun h => i_chain h⟩
instance st_i_exbl {b : Bool} {P : Bool → Prop} : Step (∃ k, D.bl b = .bl k ∧ P k) (P b) := ⟨fun h => i_exbl h⟩
instance st_i_exint {b : Int} {P : Int → Prop} : Step (∃ k, D.int b = .int k ∧ P k) (P b) := ⟨fun h => i_exint h⟩
instance st_i_exstr {b : Str} {P : Str → Prop} : Step (∃ k, D.str b = .str k ∧ P k) (P b) := ⟨fun h => i_exstr h⟩
instance st_i_test {de : DE} {R : Bool → Ss → Mem → Prop} : Step (dTest de δ μ R) (de δ μ fun d δ1 μ1 => ∃ b, d = .bl b ∧ R b δ1 μ1) := ⟨fun h => i_test h⟩
instance st_i_and {t u : DT} {R : Bool → Ss → Mem → Prop} : Step (dAnd t u δ μ R) (t δ μ fun c δ1 μ1 => if c = true then u δ1 μ1 R else R false δ1 μ1) := ⟨fun h => i_and h⟩
instance st_i_or {t u : DT} {R : Bool → Ss → Mem → Prop} : Step (dOr t u δ μ R) (t δ μ fun c δ1 μ1 => if c = true then R true δ1 μ1 else u δ1 μ1 R) := ⟨fun h => i_or h⟩
instance st_i_not {t : DT} {R : Bool → Ss → Mem → Prop} : Step (dNot t δ μ R) (t δ μ fun c δ1 μ1 => R (!c) δ1 μ1) := ⟨fun h => i_not h⟩
instance st_i_andV {t u : DE} : Step (dAndV t u δ μ Q) (t δ μ fun x δ1 μ1 => ∃ c, x = .bl c ∧ if c = true then u δ1 μ1 Q else Q (.bl false) δ1 μ1) := ⟨fun h => i_andV h⟩
instance st_i_orV {t u : DE} : Step (dOrV t u δ μ Q) (t δ μ fun x δ1 μ1 => ∃ c, x = .bl c ∧ if c = true then Q (.bl true) δ1 μ1 else u δ1 μ1 Q) := ⟨fun h => i_orV h⟩
instance st_i_notV {t : DE} : Step (dNotV t δ μ Q) (t δ μ fun x δ1 μ1 => ∃ c, x = .bl c ∧ Q (.bl (!c)) δ1 μ1) := ⟨fun h => i_notV h⟩
instance st_i_ifE {t : DT} {da db : DE} : Step (dIf t da db δ μ Q) (t δ μ fun c δ1 μ1 => if c = true then da δ1 μ1 Q else db δ1 μ1 Q) := ⟨fun h => i_ifE h⟩
instance st_i_nil {R : List D → Ss → Mem → Prop} : Step (dNil δ μ R) (R [] δ μ) := ⟨fun h => i_nil h⟩
instance st_i_cons {da : DE} {dr : DA} {R : List D → Ss → Mem → Prop} : Step (dCons da dr δ μ R) (da δ μ fun x δ1 μ1 => dr δ1 μ1 fun xs δ2 μ2 => R (x :: xs) δ2 μ2) := ⟨fun h => i_cons h⟩
instance st_i_tup0 {da : DA} : Step (dTup da δ μ Q) (da δ μ fun xs δ1 μ1 => xs.length ≤ sizeLine ∧ Q (.tup xs) δ1 μ1) := ⟨fun h => i_tup0 h⟩
instance st_i_lst0 {da : DA} : Step (dLst da δ μ Q) (da δ μ fun xs δ1 μ1 => xs.length ≤ sizeLine ∧ Q (.lst xs) δ1 μ1) := ⟨fun h => i_lst0 h⟩
instance st_i_flst0 {da : DA} {R : MO → Ss → Mem → Prop} : Step (fLst da δ μ R) (da δ μ fun xs δ1 μ1 => xs.length ≤ sizeLine ∧ R (.lst xs) δ1 μ1) := ⟨fun h => i_flst0 h⟩
instance st_i_lstM0 {da : DA} : Step (dLstM da δ μ Q) (da δ μ fun xs δ1 μ1 => xs.length ≤ sizeLine ∧ ∀ p, μ1 p = none → Q (.ref p) δ1 (updM μ1 p (.lst xs))) := ⟨fun h => i_lstM0 h⟩
instance st_i_ice {df : DF} : Step (dIce df δ μ Q) (df δ μ fun m δ1 μ1 => Q (frozen m) δ1 μ1) := ⟨fun h => i_ice h⟩
instance st_i_CB {dc : DC} {da : DA} : Step (dCB dc da δ μ Q) (da δ μ fun ds δ1 μ1 => dc ds μ1 fun d μ2 => Q d δ1 μ2) := ⟨fun h => i_CB h⟩
instance st_i_callX {dsp : DSp} {dds : List D} {XD : DXW} {da : DA} : Step (dCallX dsp dds XD da δ μ Q) (da δ μ fun ds δ1 μ1 => dsp (ds ++ dds) μ1 (fun d μ2 => Q d δ1 μ2) (fun c fs μ2 => XD c fs δ1 μ2)) := ⟨fun h => i_callX h⟩
instance st_i_callX0 {dsp : DSp} {XD : DXW} {da : DA} : Step (dCallX dsp [] XD da δ μ Q) (da δ μ fun ds δ1 μ1 => dsp ds μ1 (fun d μ2 => Q d δ1 μ2) (fun c fs μ2 => XD c fs δ1 μ2)) := ⟨fun h => i_callX0 h⟩
instance st_i_methX {C m : Str} {dsp : DSp} {dds : List D} {XD : DXW} {do_ : DE} {da : DA} : Step (dMethX C m dsp dds XD do_ da δ μ Q) (do_ δ μ fun x δ1 μ1 => OnM C m x μ1 (da δ1 μ1 fun ds δ2 μ2 => dsp (x :: (ds ++ dds)) μ2 (fun d μ3 => Q d δ2 μ3) (fun c fs μ3 => XD c fs δ2 μ3))) := ⟨fun h => i_methX h⟩
instance st_i_methX0 {C m : Str} {dsp : DSp} {XD : DXW} {do_ : DE} {da : DA} : Step (dMethX C m dsp [] XD do_ da δ μ Q) (do_ δ μ fun x δ1 μ1 => OnM C m x μ1 (da δ1 μ1 fun ds δ2 μ2 => dsp (x :: ds) μ2 (fun d μ3 => Q d δ2 μ3) (fun c fs μ3 => XD c fs δ2 μ3))) := ⟨fun h => i_methX0 h⟩
instance st_i_fld {C f : Str} {da : DE} : Step (dFld C f da δ μ Q) (da δ μ fun x δ1 μ1 => OfF C f x μ1 fun d => Q d δ1 μ1) := ⟨fun h => i_fld h⟩
instance st_i_setFld {C f : Str} {da de : DE} : Step (dSetFld C f da de ⟨nx, rt, bk, ct⟩ δ μ) (de δ μ fun d δ1 μ1 => da δ1 μ1 fun x δ2 μ2 => ToF C f x d μ2 fun μ3 => nx δ2 μ3) := ⟨fun h => i_setFld h⟩
instance st_i_makeM {C : Str} {dsp : DSp} {dds : List D} {XD : DXW} {da : DA} : Step (dMakeM C dsp dds XD da δ μ Q) (da δ μ fun ds δ1 μ1 => ∀ p, μ1 p = none → dsp (.ref p :: (ds ++ dds)) (updM μ1 p (.obj C [])) (fun d μ2 => d = .non ∧ Q (.ref p) δ1 μ2) (fun c fs μ2 => DropX XD p c fs δ1 μ2)) := ⟨fun h => i_makeM h⟩
instance st_i_makeM0 {C : Str} {dsp : DSp} {XD : DXW} {da : DA} : Step (dMakeM C dsp [] XD da δ μ Q) (da δ μ fun ds δ1 μ1 => ∀ p, μ1 p = none → dsp (.ref p :: ds) (updM μ1 p (.obj C [])) (fun d μ2 => d = .non ∧ Q (.ref p) δ1 μ2) (fun c fs μ2 => DropX XD p c fs δ1 μ2)) := ⟨fun h => i_makeM0 h⟩
instance st_i_makeI {C : Str} {dsp : DSp} {dds : List D} {XD : DXW} {da : DA} : Step (dMakeI C dsp dds XD da δ μ Q) (da δ μ fun ds δ1 μ1 => ∀ p, μ1 p = none → dsp (.ref p :: (ds ++ dds)) (updM μ1 p (.obj C [])) (fun d μ2 => IceO C p d μ2 fun d μ3 => Q d δ1 μ3) (fun c fs μ2 => DropX XD p c fs δ1 μ2)) := ⟨fun h => i_makeI h⟩
instance st_i_makeI0 {C : Str} {dsp : DSp} {XD : DXW} {da : DA} : Step (dMakeI C dsp [] XD da δ μ Q) (da δ μ fun ds δ1 μ1 => ∀ p, μ1 p = none → dsp (.ref p :: ds) (updM μ1 p (.obj C [])) (fun d μ2 => IceO C p d μ2 fun d μ3 => Q d δ1 μ3) (fun c fs μ2 => DropX XD p c fs δ1 μ2)) := ⟨fun h => i_makeI0 h⟩
instance st_i_appM {da de : DE} : Step (dAppM da de ⟨nx, rt, bk, ct⟩ δ μ) (da δ μ fun x δ1 μ1 => isL x μ1 ∧ de δ1 μ1 fun d δ2 μ2 => AppR x d μ2 fun μ3 => nx δ2 μ3) := ⟨fun h => i_appM h⟩
instance st_i_raise {XD : DXW} {C : Str} : Step (dRaise XD C ⟨nx, rt, bk, ct⟩ δ μ) (XD C none δ μ) := ⟨fun h => i_raise h⟩
instance st_i_try {EX : List Str} {CN : Str} {i : Nat} {XD : DXW} {db : DXW → DS} {dsu : DS} : Step (dTry EX CN i XD db dsu ⟨nx, rt, bk, ct⟩ δ μ) (db (TryX EX CN i XD dsu nx rt bk ct) ⟨nx, rt, bk, ct⟩ δ μ) := ⟨fun h => i_try h⟩
instance st_i_try0 {EX : List Str} {CN : Str} {XD : DXW} {db : DXW → DS} {dsu : DS} : Step (dTry0 EX CN XD db dsu ⟨nx, rt, bk, ct⟩ δ μ) (db (TryX0 EX CN XD dsu nx rt bk ct) ⟨nx, rt, bk, ct⟩ δ μ) := ⟨fun h => i_try0 h⟩
instance st_i_isC {EX CL : List Str} {CN : Str} {de : DE} : Step (dIsC EX CL CN de δ μ Q) (de δ μ fun x δ1 μ1 => IsC EX CL CN x μ1 fun b => Q (.bl b) δ1 μ1) := ⟨fun h => i_isC h⟩
instance st_isC_non {EX CL : List Str} {CN : Str} {R : Bool → Prop} : Step (IsC EX CL CN .non μ R) (R false) := ⟨fun h => isC_non h⟩
instance st_isC_bl {EX CL : List Str} {CN : Str} {b : Bool} {R : Bool → Prop} : Step (IsC EX CL CN (.bl b) μ R) (R false) := ⟨fun h => isC_bl h⟩
instance st_isC_int {EX CL : List Str} {CN : Str} {b : Int} {R : Bool → Prop} : Step (IsC EX CL CN (.int b) μ R) (R false) := ⟨fun h => isC_int h⟩
instance st_isC_str {EX CL : List Str} {CN : Str} {b : Str} {R : Bool → Prop} : Step (IsC EX CL CN (.str b) μ R) (R false) := ⟨fun h => isC_str h⟩
instance st_isC_tup {EX CL : List Str} {CN : Str} {b : List D} {R : Bool → Prop} : Step (IsC EX CL CN (.tup b) μ R) (R false) := ⟨fun h => isC_tup h⟩
instance st_isC_lst {EX CL : List Str} {CN : Str} {b : List D} {R : Bool → Prop} : Step (IsC EX CL CN (.lst b) μ R) (R false) := ⟨fun h => isC_lst h⟩
instance st_i_sl {de : DE} {dl dh : DO} : Step (dSl de dl dh δ μ Q) (de δ μ fun x δ1 μ1 => dl δ1 μ1 fun lo δ2 μ2 => dh δ2 μ2 fun hi δ3 μ3 => rdSl x lo hi μ3 fun d μ4 => Q d δ3 μ4) := ⟨fun h => i_sl h⟩
instance st_i_noPart {R : Option Int → Ss → Mem → Prop} : Step (dNoPart δ μ R) (R none δ μ) := ⟨fun h => i_noPart h⟩
instance st_i_part {de : DE} {R : Option Int → Ss → Mem → Prop} : Step (dPart de δ μ R) (de δ μ fun x δ1 μ1 => ∃ i, x = .int i ∧ R (some i) δ1 μ1) := ⟨fun h => i_part h⟩
instance st_i_addI {i j : Int} : Step (rdAdd (.int i) (.int j) μ QM') (QM' (.int (i + j)) μ) := ⟨fun h => i_addI h⟩
instance st_i_sub {i j : Int} : Step (rdSub (.int i) (.int j) μ QM') (QM' (.int (i - j)) μ) := ⟨fun h => i_sub h⟩
instance st_i_lt {i j : Int} : Step (rdLt (.int i) (.int j) μ QM') (QM' (.bl (decide (i < j))) μ) := ⟨fun h => i_lt h⟩
instance st_i_le {i j : Int} : Step (rdLe (.int i) (.int j) μ QM') (QM' (.bl (decide (i ≤ j))) μ) := ⟨fun h => i_le h⟩
instance st_i_gt {i j : Int} : Step (rdGt (.int i) (.int j) μ QM') (QM' (.bl (decide (j < i))) μ) := ⟨fun h => i_gt h⟩
instance st_i_ge {i j : Int} : Step (rdGe (.int i) (.int j) μ QM') (QM' (.bl (decide (j ≤ i))) μ) := ⟨fun h => i_ge h⟩
instance st_i_inS {c : Nat} {z : Str} : Step (rdInS (.str ⟨#[c]⟩) (.str z) μ QM') (QM' (.bl (decide (c ∈ z.cps.toList))) μ) := ⟨fun h => i_inS h⟩
instance st_i_notInS {c : Nat} {z : Str} : Step (rdNotInS (.str ⟨#[c]⟩) (.str z) μ QM') (QM' (.bl (!decide (c ∈ z.cps.toList))) μ) := ⟨fun h => i_notInS h⟩
instance st_i_isN {d : D} : Step (rdIsN d .non μ QM') (QM' (.bl (isNon d)) μ) := ⟨fun h => i_isN h⟩
instance st_i_notN {d : D} : Step (rdNotN d .non μ QM') (QM' (.bl (!isNon d)) μ) := ⟨fun h => i_notN h⟩
instance st_i_eqI {i j : Int} : Step (rdEq (.int i) (.int j) μ QM') (QM' (.bl (decide (i = j))) μ) := ⟨fun h => i_eqI h⟩
instance st_i_neI {i j : Int} : Step (rdNe (.int i) (.int j) μ QM') (QM' (.bl (!decide (i = j))) μ) := ⟨fun h => i_neI h⟩
instance st_i_eqS {i j : Str} : Step (rdEq (.str i) (.str j) μ QM') (QM' (.bl (decide (i = j))) μ) := ⟨fun h => i_eqS h⟩
instance st_i_neS {i j : Str} : Step (rdNe (.str i) (.str j) μ QM') (QM' (.bl (!decide (i = j))) μ) := ⟨fun h => i_neS h⟩
instance st_i_eqB {i j : Bool} : Step (rdEq (.bl i) (.bl j) μ QM') (QM' (.bl (i == j)) μ) := ⟨fun h => i_eqB h⟩
instance st_i_neB {i j : Bool} : Step (rdNe (.bl i) (.bl j) μ QM') (QM' (.bl (!(i == j))) μ) := ⟨fun h => i_neB h⟩
instance st_i_slT {l : List D} {lo hi : Option Int} : Step (rdSl (.tup l) lo hi μ QM') (QM' (.tup (cutD l lo hi)) μ) := ⟨fun h => i_slT h⟩
instance st_i_slL {l : List D} {lo hi : Option Int} : Step (rdSl (.lst l) lo hi μ QM') (QM' (.lst (cutD l lo hi)) μ) := ⟨fun h => i_slL h⟩
instance st_i_slC {l : List D} {lo hi : Option Int} : Step (rdSl (.scr l) lo hi μ QM') (QM' (.lst (cutD l lo hi)) μ) := ⟨fun h => i_slC h⟩
instance st_i_lenL {l : List D} : Step (rdLen [.lst l] μ QM') (QM' (.int l.length) μ) := ⟨fun h => i_lenL h⟩
instance st_i_lenC {l : List D} : Step (rdLen [.scr l] μ QM') (QM' (.int l.length) μ) := ⟨fun h => i_lenC h⟩
instance st_i_lenT {l : List D} : Step (rdLen [.tup l] μ QM') (QM' (.int l.length) μ) := ⟨fun h => i_lenT h⟩
instance st_i_intI {i : Int} : Step (rdInt [.int i] μ QM') (QM' (.int i) μ) := ⟨fun h => i_intI h⟩
instance st_i_intB {b : Bool} : Step (rdInt [.bl b] μ QM') (QM' (.int (if b then 1 else 0)) μ) := ⟨fun h => i_intB h⟩
instance st_i_abs {i : Int} : Step (rdAbs [.int i] μ QM') (QM' (.int (if i < 0 then -i else i)) μ) := ⟨fun h => i_abs h⟩
instance st_i_dicM : Step (dDicM δ μ Q) (∀ p, μ p = none → Q (.ref p) δ (updM μ p (.dct []))) := ⟨fun h => i_dicM h⟩
instance st_i_getK {da db : DE} : Step (dGetK da db δ μ Q) (da δ μ fun x δ1 μ1 => db δ1 μ1 fun y δ2 μ2 => GetK x y μ2 fun d => Q d δ2 μ2) := ⟨fun h => i_getK h⟩
instance st_i_putK {da db de : DE} : Step (dPutK da db de ⟨nx, rt, bk, ct⟩ δ μ) (de δ μ fun d δ1 μ1 => da δ1 μ1 fun x δ2 μ2 => db δ2 μ2 fun y δ3 μ3 => PutK x y d μ3 fun μ4 => nx δ3 μ4) := ⟨fun h => i_putK h⟩
instance st_i_max2 {i j : Int} : Step (rdMax2 [.int i, .int j] μ QM') (QM' (.int (max i j)) μ) := ⟨fun h => i_max2 h⟩
instance st_i_min2 {i j : Int} : Step (rdMin2 [.int i, .int j] μ QM') (QM' (.int (min i j)) μ) := ⟨fun h => i_min2 h⟩
instance st_i_all {bs : List Bool} : Step (rdAll [.lst (bs.map .bl)] μ QM') (QM' (.bl (bs.all id)) μ) := ⟨fun h => i_all h⟩
instance st_i_listL {l : List D} : Step (rdList [.lst l] μ QM') (QM' (.lst l) μ) := ⟨fun h => i_listL h⟩
instance st_i_listC {l : List D} : Step (rdList [.scr l] μ QM') (QM' (.lst l) μ) := ⟨fun h => i_listC h⟩
instance st_i_listT {l : List D} : Step (rdList [.tup l] μ QM') (QM' (.lst l) μ) := ⟨fun h => i_listT h⟩
instance st_i_tupL {l : List D} : Step (rdTup [.lst l] μ QM') (QM' (.tup l) μ) := ⟨fun h => i_tupL h⟩
instance st_i_tupC {l : List D} : Step (rdTup [.scr l] μ QM') (QM' (.tup l) μ) := ⟨fun h => i_tupC h⟩
instance st_i_tupT {l : List D} : Step (rdTup [.tup l] μ QM') (QM' (.tup l) μ) := ⟨fun h => i_tupT h⟩
instance st_ite_tt {A B : Prop} : Step (if true = true then A else B) (A) := ⟨fun h => ite_tt h⟩
instance st_ite_ff {A B : Prop} : Step (if false = true then A else B) (B) := ⟨fun h => ite_ff h⟩
instance st_ite_nff {A B : Prop} : Step (if (!false) = true then A else B) (A) := ⟨fun h => ite_nff h⟩
instance st_ite_ntt {A B : Prop} : Step (if (!true) = true then A else B) (B) := ⟨fun h => ite_ntt h⟩
instance st_i_neg {da : DE} : Step (dNeg da δ μ Q) (da δ μ fun x δ1 μ1 => ∃ i, x = .int i ∧ Q (.int (-i)) δ1 μ1) := ⟨fun h => i_neg h⟩
instance st_i_inO {neg : Bool} {da : DE} {i : Nat} : Step (dInO neg da i δ μ Q) (da δ μ fun x δ1 μ1 => ∃ l, δ1[i]? = some (.own (.lst l)) ∧ flatD x = true ∧ l.all flatD = true ∧ Q (.bl (if neg then !inD x l else inD x l)) δ1 μ1) := ⟨fun h => i_inO h⟩
instance st_i_BMs {r : D → List D → Mem → QM → Prop} {do_ : DE} {da : DA} : Step (dBMs r do_ da δ μ Q) (do_ δ μ fun x δ1 μ1 => isStr x ∧ da δ1 μ1 fun xs δ2 μ2 => r x xs μ2 fun d μ3 => Q d δ2 μ3) := ⟨fun h => i_BMs h⟩
instance st_i_isStr {z : Str} {P : Prop} : Step (isStr (.str z) ∧ P) (P) := ⟨fun h => i_isStr h⟩
instance st_i_isBB {b : Bool} : Step (rdIsi [.bl b, .ty "bool"] μ QM') (QM' (.bl true) μ) := ⟨fun h => i_isBB h⟩
instance st_i_isBI {b : Bool} : Step (rdIsi [.bl b, .ty "int"] μ QM') (QM' (.bl true) μ) := ⟨fun h => i_isBI h⟩
instance st_i_isIB {b : Int} : Step (rdIsi [.int b, .ty "bool"] μ QM') (QM' (.bl false) μ) := ⟨fun h => i_isIB h⟩
instance st_i_isII {b : Int} : Step (rdIsi [.int b, .ty "int"] μ QM') (QM' (.bl true) μ) := ⟨fun h => i_isII h⟩
instance st_i_isSS {b : Str} : Step (rdIsi [.str b, .ty "str"] μ QM') (QM' (.bl true) μ) := ⟨fun h => i_isSS h⟩
instance st_i_isTT {b : List D} : Step (rdIsi [.tup b, .ty "tuple"] μ QM') (QM' (.bl true) μ) := ⟨fun h => i_isTT h⟩
instance st_i_isLL {b : List D} : Step (rdIsi [.lst b, .ty "list"] μ QM') (QM' (.bl true) μ) := ⟨fun h => i_isLL h⟩
instance st_i_setIxM {da db de : DE} : Step (dSetIxM da db de ⟨nx, rt, bk, ct⟩ δ μ) (de δ μ fun d δ1 μ1 => da δ1 μ1 fun x δ2 μ2 => db δ2 μ2 fun y δ3 μ3 => ∃ p l k j, x = .ref p ∧ μ3 p = some (.lst l) ∧ y = .int k ∧ ixN l.length k = some j ∧ nx δ3 (updM μ3 p (.lst (l.set j d)))) := ⟨fun h => i_setIxM h⟩
instance st_i_par {i j : Nat} {da : DA} : Step (dPar i j da ⟨nx, rt, bk, ct⟩ δ μ) (da δ μ fun ds δ1 μ1 => ParK nx i j ds δ1 μ1) := ⟨fun h => i_par h⟩
instance st_i_parK {i j : Nat} {x y : D} : Step (ParK nx i j [x, y] δ μ) (nxSet (nxSet nx j (.val y)) i (.val x) δ μ) := ⟨fun h => i_parK h⟩
instance st_i_par3 {i j k : Nat} {da : DA} : Step (dPar3 i j k da ⟨nx, rt, bk, ct⟩ δ μ) (da δ μ fun ds δ1 μ1 => ParK3 nx i j k ds δ1 μ1) := ⟨fun h => i_par3 h⟩
instance st_i_parK3 {i j k : Nat} {x y z : D} : Step (ParK3 nx i j k [x, y, z] δ μ) (nxSet (nxSet (nxSet nx k (.val z)) j (.val y)) i (.val x) δ μ) := ⟨fun h => i_parK3 h⟩
instance st_i_parF {i j : Nat} {df : DF} {db : DE} : Step (dParF i j df db ⟨nx, rt, bk, ct⟩ δ μ) (df δ μ fun m δ1 μ1 => db δ1 μ1 fun y δ2 μ2 => nxSet (nxSet nx j (.val y)) i (.own m) δ2 μ2) := ⟨fun h => i_parF h⟩
instance st_i_for {di : DI} {dg : DG} {db : DS} : Step (dFor di dg db ⟨nx, rt, bk, ct⟩ δ μ) (di δ μ fun ds G δ1 μ1 => ForG ds G dg db nx rt δ1 μ1) := ⟨fun h => i_for h⟩
instance st_i_icell {de : DE} {R : List D → (Mem → Prop) → Ss → Mem → Prop} : Step (diCell de δ μ R) (de δ μ fun d δ1 μ1 => CellW d μ1 fun l G => R l G δ1 μ1) := ⟨fun h => i_icell h⟩
instance st_i_iseq {de : DE} {R : List D → (Mem → Prop) → Ss → Mem → Prop} : Step (diSeq de δ μ R) (de δ μ fun d δ1 μ1 => ∃ l, (d = .lst l ∨ d = .scr l) ∧ R l (fun _ => True) δ1 μ1) := ⟨fun h => i_iseq h⟩
instance st_i_itup {de : DE} {R : List D → (Mem → Prop) → Ss → Mem → Prop} : Step (diTup de δ μ R) (de δ μ fun d δ1 μ1 => ∃ l, d = .tup l ∧ R l (fun _ => True) δ1 μ1) := ⟨fun h => i_itup h⟩
instance st_i_exlst {a : List D} {P : List D → Prop} : Step (∃ l, (D.lst a = .lst l ∨ D.lst a = .scr l) ∧ P l) (P a) := ⟨fun h => i_exlst h⟩
instance st_i_exscr {a : List D} {P : List D → Prop} : Step (∃ l, (D.scr a = .lst l ∨ D.scr a = .scr l) ∧ P l) (P a) := ⟨fun h => i_exscr h⟩
instance st_i_extup {a : List D} {P : List D → Prop} : Step (∃ l, D.tup a = .tup l ∧ P l) (P a) := ⟨fun h => i_extup h⟩
instance st_i_istr {de : DE} {R : List D → (Mem → Prop) → Ss → Mem → Prop} : Step (diStr de δ μ R) (de δ μ fun d δ1 μ1 => ∃ z, d = .str z ∧ R (signs z) (fun _ => True) δ1 μ1) := ⟨fun h => i_istr h⟩
instance st_i_rng1 {da : DA} {R : List D → (Mem → Prop) → Ss → Mem → Prop} : Step (diRng1 da δ μ R) (da δ μ fun xs δ1 μ1 => ∃ j : Int, xs = [.int j] ∧ -(2 ^ 62) ≤ j ∧ j < 2 ^ 62 ∧ R (rangeD 0 j.toNat) (fun _ => True) δ1 μ1) := ⟨fun h => i_rng1 h⟩
instance st_i_rng2 {da : DA} {R : List D → (Mem → Prop) → Ss → Mem → Prop} : Step (diRng2 da δ μ R) (da δ μ fun xs δ1 μ1 => ∃ i j : Int, xs = [.int i, .int j] ∧ (-(2 ^ 62) ≤ i ∧ i < 2 ^ 62 ∧ -(2 ^ 62) ≤ j ∧ j < 2 ^ 62) ∧ R (rangeD i (j - i).toNat) (fun _ => True) δ1 μ1) := ⟨fun h => i_rng2 h⟩
instance st_i_lc {di : DI} {dg : DG} {dt : DT} {de : DE} {vs : List Nat} {R : MO → Ss → Mem → Prop} : Step (fLc di dg dt de vs δ μ R) (di δ μ fun ds G δ1 μ1 => LcG ds G dg dt de vs (fun acc δ μ => R (.lst acc) δ μ) δ1 μ1) := ⟨fun h => i_lc h⟩
instance st_i_iceLc {di : DI} {dg : DG} {dt : DT} {de : DE} {vs : List Nat} : Step (dIce (fLc di dg dt de vs) δ μ Q) (di δ μ fun ds G δ1 μ1 => LcG ds G dg dt de vs (fun acc δ μ => Q (.lst acc) δ μ) δ1 μ1) := ⟨fun h => i_iceLc h⟩
instance st_i_yes {R : Bool → Ss → Mem → Prop} : Step (dYes δ μ R) (R true δ μ) := ⟨fun h => i_yes h⟩
instance st_i_rfl {a : Ss} {P : Prop} : Step (a = a ∧ P) (P) := ⟨fun h => i_rfl h⟩
instance st_v_0 {d : D} {l : Ss} : Step (dVar 0 (.val d :: l) μ Q) (Q d (.val d :: l) μ) := ⟨fun h => v_0 h⟩
instance st_v_1 {s0 : SL} {d : D} {l : Ss} : Step (dVar 1 (s0 :: .val d :: l) μ Q) (Q d (s0 :: .val d :: l) μ) := ⟨fun h => v_1 h⟩
instance st_v_2 {s0 s1 : SL} {d : D} {l : Ss} : Step (dVar 2 (s0 :: s1 :: .val d :: l) μ Q) (Q d (s0 :: s1 :: .val d :: l) μ) := ⟨fun h => v_2 h⟩
instance st_v_3 {s0 s1 s2 : SL} {d : D} {l : Ss} : Step (dVar 3 (s0 :: s1 :: s2 :: .val d :: l) μ Q) (Q d (s0 :: s1 :: s2 :: .val d :: l) μ) := ⟨fun h => v_3 h⟩
instance st_v_4 {s0 s1 s2 s3 : SL} {d : D} {l : Ss} : Step (dVar 4 (s0 :: s1 :: s2 :: s3 :: .val d :: l) μ Q) (Q d (s0 :: s1 :: s2 :: s3 :: .val d :: l) μ) := ⟨fun h => v_4 h⟩
instance st_v_5 {s0 s1 s2 s3 s4 : SL} {d : D} {l : Ss} : Step (dVar 5 (s0 :: s1 :: s2 :: s3 :: s4 :: .val d :: l) μ Q) (Q d (s0 :: s1 :: s2 :: s3 :: s4 :: .val d :: l) μ) := ⟨fun h => v_5 h⟩
instance st_v_6 {s0 s1 s2 s3 s4 s5 : SL} {d : D} {l : Ss} : Step (dVar 6 (s0 :: s1 :: s2 :: s3 :: s4 :: s5 :: .val d :: l) μ Q) (Q d (s0 :: s1 :: s2 :: s3 :: s4 :: s5 :: .val d :: l) μ) := ⟨fun h => v_6 h⟩
instance st_v_7 {s0 s1 s2 s3 s4 s5 s6 : SL} {d : D} {l : Ss} : Step (dVar 7 (s0 :: s1 :: s2 :: s3 :: s4 :: s5 :: s6 :: .val d :: l) μ Q) (Q d (s0 :: s1 :: s2 :: s3 :: s4 :: s5 :: s6 :: .val d :: l) μ) := ⟨fun h => v_7 h⟩
instance st_v_8 {s0 s1 s2 s3 s4 s5 s6 s7 : SL} {d : D} {l : Ss} : Step (dVar 8 (s0 :: s1 :: s2 :: s3 :: s4 :: s5 :: s6 :: s7 :: .val d :: l) μ Q) (Q d (s0 :: s1 :: s2 :: s3 :: s4 :: s5 :: s6 :: s7 :: .val d :: l) μ) := ⟨fun h => v_8 h⟩
instance st_v_9 {s0 s1 s2 s3 s4 s5 s6 s7 s8 : SL} {d : D} {l : Ss} : Step (dVar 9 (s0 :: s1 :: s2 :: s3 :: s4 :: s5 :: s6 :: s7 :: s8 :: .val d :: l) μ Q) (Q d (s0 :: s1 :: s2 :: s3 :: s4 :: s5 :: s6 :: s7 :: s8 :: .val d :: l) μ) := ⟨fun h => v_9 h⟩
instance st_v_10 {s0 s1 s2 s3 s4 s5 s6 s7 s8 s9 : SL} {d : D} {l : Ss} : Step (dVar 10 (s0 :: s1 :: s2 :: s3 :: s4 :: s5 :: s6 :: s7 :: s8 :: s9 :: .val d :: l) μ Q) (Q d (s0 :: s1 :: s2 :: s3 :: s4 :: s5 :: s6 :: s7 :: s8 :: s9 :: .val d :: l) μ) := ⟨fun h => v_10 h⟩
instance st_v_11 {s0 s1 s2 s3 s4 s5 s6 s7 s8 s9 s10 : SL} {d : D} {l : Ss} : Step (dVar 11 (s0 :: s1 :: s2 :: s3 :: s4 :: s5 :: s6 :: s7 :: s8 :: s9 :: s10 :: .val d :: l) μ Q) (Q d (s0 :: s1 :: s2 :: s3 :: s4 :: s5 :: s6 :: s7 :: s8 :: s9 :: s10 :: .val d :: l) μ) := ⟨fun h => v_11 h⟩
instance st_vf_0 {a : List D} {l : Ss} : Step (dVarF 0 (.own (.lst a) :: l) μ Q) (Q (.lst a) (.val (.lst a) :: l) μ) := ⟨fun h => vf_0 h⟩
instance st_vf_1 {s0 : SL} {a : List D} {l : Ss} : Step (dVarF 1 (s0 :: .own (.lst a) :: l) μ Q) (Q (.lst a) (s0 :: .val (.lst a) :: l) μ) := ⟨fun h => vf_1 h⟩
instance st_vf_2 {s0 s1 : SL} {a : List D} {l : Ss} : Step (dVarF 2 (s0 :: s1 :: .own (.lst a) :: l) μ Q) (Q (.lst a) (s0 :: s1 :: .val (.lst a) :: l) μ) := ⟨fun h => vf_2 h⟩
instance st_vf_3 {s0 s1 s2 : SL} {a : List D} {l : Ss} : Step (dVarF 3 (s0 :: s1 :: s2 :: .own (.lst a) :: l) μ Q) (Q (.lst a) (s0 :: s1 :: s2 :: .val (.lst a) :: l) μ) := ⟨fun h => vf_3 h⟩
instance st_vf_4 {s0 s1 s2 s3 : SL} {a : List D} {l : Ss} : Step (dVarF 4 (s0 :: s1 :: s2 :: s3 :: .own (.lst a) :: l) μ Q) (Q (.lst a) (s0 :: s1 :: s2 :: s3 :: .val (.lst a) :: l) μ) := ⟨fun h => vf_4 h⟩
instance st_vf_5 {s0 s1 s2 s3 s4 : SL} {a : List D} {l : Ss} : Step (dVarF 5 (s0 :: s1 :: s2 :: s3 :: s4 :: .own (.lst a) :: l) μ Q) (Q (.lst a) (s0 :: s1 :: s2 :: s3 :: s4 :: .val (.lst a) :: l) μ) := ⟨fun h => vf_5 h⟩
instance st_vf_6 {s0 s1 s2 s3 s4 s5 : SL} {a : List D} {l : Ss} : Step (dVarF 6 (s0 :: s1 :: s2 :: s3 :: s4 :: s5 :: .own (.lst a) :: l) μ Q) (Q (.lst a) (s0 :: s1 :: s2 :: s3 :: s4 :: s5 :: .val (.lst a) :: l) μ) := ⟨fun h => vf_6 h⟩
instance st_vf_7 {s0 s1 s2 s3 s4 s5 s6 : SL} {a : List D} {l : Ss} : Step (dVarF 7 (s0 :: s1 :: s2 :: s3 :: s4 :: s5 :: s6 :: .own (.lst a) :: l) μ Q) (Q (.lst a) (s0 :: s1 :: s2 :: s3 :: s4 :: s5 :: s6 :: .val (.lst a) :: l) μ) := ⟨fun h => vf_7 h⟩
instance st_vf_8 {s0 s1 s2 s3 s4 s5 s6 s7 : SL} {a : List D} {l : Ss} : Step (dVarF 8 (s0 :: s1 :: s2 :: s3 :: s4 :: s5 :: s6 :: s7 :: .own (.lst a) :: l) μ Q) (Q (.lst a) (s0 :: s1 :: s2 :: s3 :: s4 :: s5 :: s6 :: s7 :: .val (.lst a) :: l) μ) := ⟨fun h => vf_8 h⟩
instance st_vf_9 {s0 s1 s2 s3 s4 s5 s6 s7 s8 : SL} {a : List D} {l : Ss} : Step (dVarF 9 (s0 :: s1 :: s2 :: s3 :: s4 :: s5 :: s6 :: s7 :: s8 :: .own (.lst a) :: l) μ Q) (Q (.lst a) (s0 :: s1 :: s2 :: s3 :: s4 :: s5 :: s6 :: s7 :: s8 :: .val (.lst a) :: l) μ) := ⟨fun h => vf_9 h⟩
instance st_vf_10 {s0 s1 s2 s3 s4 s5 s6 s7 s8 s9 : SL} {a : List D} {l : Ss} : Step (dVarF 10 (s0 :: s1 :: s2 :: s3 :: s4 :: s5 :: s6 :: s7 :: s8 :: s9 :: .own (.lst a) :: l) μ Q) (Q (.lst a) (s0 :: s1 :: s2 :: s3 :: s4 :: s5 :: s6 :: s7 :: s8 :: s9 :: .val (.lst a) :: l) μ) := ⟨fun h => vf_10 h⟩
instance st_vf_11 {s0 s1 s2 s3 s4 s5 s6 s7 s8 s9 s10 : SL} {a : List D} {l : Ss} : Step (dVarF 11 (s0 :: s1 :: s2 :: s3 :: s4 :: s5 :: s6 :: s7 :: s8 :: s9 :: s10 :: .own (.lst a) :: l) μ Q) (Q (.lst a) (s0 :: s1 :: s2 :: s3 :: s4 :: s5 :: s6 :: s7 :: s8 :: s9 :: s10 :: .val (.lst a) :: l) μ) := ⟨fun h => vf_11 h⟩
instance st_vd_0 {a : List (Key × D)} {l : Ss} : Step (dVarF 0 (.own (.dct a) :: l) μ Q) (Q (.dct a) (.val (.dct a) :: l) μ) := ⟨fun h => vd_0 h⟩
instance st_vd_1 {s0 : SL} {a : List (Key × D)} {l : Ss} : Step (dVarF 1 (s0 :: .own (.dct a) :: l) μ Q) (Q (.dct a) (s0 :: .val (.dct a) :: l) μ) := ⟨fun h => vd_1 h⟩
instance st_vd_2 {s0 s1 : SL} {a : List (Key × D)} {l : Ss} : Step (dVarF 2 (s0 :: s1 :: .own (.dct a) :: l) μ Q) (Q (.dct a) (s0 :: s1 :: .val (.dct a) :: l) μ) := ⟨fun h => vd_2 h⟩
instance st_vd_3 {s0 s1 s2 : SL} {a : List (Key × D)} {l : Ss} : Step (dVarF 3 (s0 :: s1 :: s2 :: .own (.dct a) :: l) μ Q) (Q (.dct a) (s0 :: s1 :: s2 :: .val (.dct a) :: l) μ) := ⟨fun h => vd_3 h⟩
instance st_vd_4 {s0 s1 s2 s3 : SL} {a : List (Key × D)} {l : Ss} : Step (dVarF 4 (s0 :: s1 :: s2 :: s3 :: .own (.dct a) :: l) μ Q) (Q (.dct a) (s0 :: s1 :: s2 :: s3 :: .val (.dct a) :: l) μ) := ⟨fun h => vd_4 h⟩
instance st_vd_5 {s0 s1 s2 s3 s4 : SL} {a : List (Key × D)} {l : Ss} : Step (dVarF 5 (s0 :: s1 :: s2 :: s3 :: s4 :: .own (.dct a) :: l) μ Q) (Q (.dct a) (s0 :: s1 :: s2 :: s3 :: s4 :: .val (.dct a) :: l) μ) := ⟨fun h => vd_5 h⟩
instance st_vd_6 {s0 s1 s2 s3 s4 s5 : SL} {a : List (Key × D)} {l : Ss} : Step (dVarF 6 (s0 :: s1 :: s2 :: s3 :: s4 :: s5 :: .own (.dct a) :: l) μ Q) (Q (.dct a) (s0 :: s1 :: s2 :: s3 :: s4 :: s5 :: .val (.dct a) :: l) μ) := ⟨fun h => vd_6 h⟩
instance st_vd_7 {s0 s1 s2 s3 s4 s5 s6 : SL} {a : List (Key × D)} {l : Ss} : Step (dVarF 7 (s0 :: s1 :: s2 :: s3 :: s4 :: s5 :: s6 :: .own (.dct a) :: l) μ Q) (Q (.dct a) (s0 :: s1 :: s2 :: s3 :: s4 :: s5 :: s6 :: .val (.dct a) :: l) μ) := ⟨fun h => vd_7 h⟩
instance st_vd_8 {s0 s1 s2 s3 s4 s5 s6 s7 : SL} {a : List (Key × D)} {l : Ss} : Step (dVarF 8 (s0 :: s1 :: s2 :: s3 :: s4 :: s5 :: s6 :: s7 :: .own (.dct a) :: l) μ Q) (Q (.dct a) (s0 :: s1 :: s2 :: s3 :: s4 :: s5 :: s6 :: s7 :: .val (.dct a) :: l) μ) := ⟨fun h => vd_8 h⟩
instance st_vd_9 {s0 s1 s2 s3 s4 s5 s6 s7 s8 : SL} {a : List (Key × D)} {l : Ss} : Step (dVarF 9 (s0 :: s1 :: s2 :: s3 :: s4 :: s5 :: s6 :: s7 :: s8 :: .own (.dct a) :: l) μ Q) (Q (.dct a) (s0 :: s1 :: s2 :: s3 :: s4 :: s5 :: s6 :: s7 :: s8 :: .val (.dct a) :: l) μ) := ⟨fun h => vd_9 h⟩
instance st_vd_10 {s0 s1 s2 s3 s4 s5 s6 s7 s8 s9 : SL} {a : List (Key × D)} {l : Ss} : Step (dVarF 10 (s0 :: s1 :: s2 :: s3 :: s4 :: s5 :: s6 :: s7 :: s8 :: s9 :: .own (.dct a) :: l) μ Q) (Q (.dct a) (s0 :: s1 :: s2 :: s3 :: s4 :: s5 :: s6 :: s7 :: s8 :: s9 :: .val (.dct a) :: l) μ) := ⟨fun h => vd_10 h⟩
instance st_vd_11 {s0 s1 s2 s3 s4 s5 s6 s7 s8 s9 s10 : SL} {a : List (Key × D)} {l : Ss} : Step (dVarF 11 (s0 :: s1 :: s2 :: s3 :: s4 :: s5 :: s6 :: s7 :: s8 :: s9 :: s10 :: .own (.dct a) :: l) μ Q) (Q (.dct a) (s0 :: s1 :: s2 :: s3 :: s4 :: s5 :: s6 :: s7 :: s8 :: s9 :: s10 :: .val (.dct a) :: l) μ) := ⟨fun h => vd_11 h⟩
instance st_n_0 {P : Ss → Mem → Prop} {s x : SL} {l : Ss} : Step (nxSet P 0 x (s :: l) μ) (P (x :: l) μ) := ⟨fun h => n_0 h⟩
instance st_n_1 {P : Ss → Mem → Prop} {s0 : SL} {s x : SL} {l : Ss} : Step (nxSet P 1 x (s0 :: s :: l) μ) (P (s0 :: x :: l) μ) := ⟨fun h => n_1 h⟩
instance st_n_2 {P : Ss → Mem → Prop} {s0 s1 : SL} {s x : SL} {l : Ss} : Step (nxSet P 2 x (s0 :: s1 :: s :: l) μ) (P (s0 :: s1 :: x :: l) μ) := ⟨fun h => n_2 h⟩
instance st_n_3 {P : Ss → Mem → Prop} {s0 s1 s2 : SL} {s x : SL} {l : Ss} : Step (nxSet P 3 x (s0 :: s1 :: s2 :: s :: l) μ) (P (s0 :: s1 :: s2 :: x :: l) μ) := ⟨fun h => n_3 h⟩
instance st_n_4 {P : Ss → Mem → Prop} {s0 s1 s2 s3 : SL} {s x : SL} {l : Ss} : Step (nxSet P 4 x (s0 :: s1 :: s2 :: s3 :: s :: l) μ) (P (s0 :: s1 :: s2 :: s3 :: x :: l) μ) := ⟨fun h => n_4 h⟩
instance st_n_5 {P : Ss → Mem → Prop} {s0 s1 s2 s3 s4 : SL} {s x : SL} {l : Ss} : Step (nxSet P 5 x (s0 :: s1 :: s2 :: s3 :: s4 :: s :: l) μ) (P (s0 :: s1 :: s2 :: s3 :: s4 :: x :: l) μ) := ⟨fun h => n_5 h⟩
instance st_n_6 {P : Ss → Mem → Prop} {s0 s1 s2 s3 s4 s5 : SL} {s x : SL} {l : Ss} : Step (nxSet P 6 x (s0 :: s1 :: s2 :: s3 :: s4 :: s5 :: s :: l) μ) (P (s0 :: s1 :: s2 :: s3 :: s4 :: s5 :: x :: l) μ) := ⟨fun h => n_6 h⟩
instance st_n_7 {P : Ss → Mem → Prop} {s0 s1 s2 s3 s4 s5 s6 : SL} {s x : SL} {l : Ss} : Step (nxSet P 7 x (s0 :: s1 :: s2 :: s3 :: s4 :: s5 :: s6 :: s :: l) μ) (P (s0 :: s1 :: s2 :: s3 :: s4 :: s5 :: s6 :: x :: l) μ) := ⟨fun h => n_7 h⟩
instance st_n_8 {P : Ss → Mem → Prop} {s0 s1 s2 s3 s4 s5 s6 s7 : SL} {s x : SL} {l : Ss} : Step (nxSet P 8 x (s0 :: s1 :: s2 :: s3 :: s4 :: s5 :: s6 :: s7 :: s :: l) μ) (P (s0 :: s1 :: s2 :: s3 :: s4 :: s5 :: s6 :: s7 :: x :: l) μ) := ⟨fun h => n_8 h⟩
instance st_n_9 {P : Ss → Mem → Prop} {s0 s1 s2 s3 s4 s5 s6 s7 s8 : SL} {s x : SL} {l : Ss} : Step (nxSet P 9 x (s0 :: s1 :: s2 :: s3 :: s4 :: s5 :: s6 :: s7 :: s8 :: s :: l) μ) (P (s0 :: s1 :: s2 :: s3 :: s4 :: s5 :: s6 :: s7 :: s8 :: x :: l) μ) := ⟨fun h => n_9 h⟩
instance st_n_10 {P : Ss → Mem → Prop} {s0 s1 s2 s3 s4 s5 s6 s7 s8 s9 : SL} {s x : SL} {l : Ss} : Step (nxSet P 10 x (s0 :: s1 :: s2 :: s3 :: s4 :: s5 :: s6 :: s7 :: s8 :: s9 :: s :: l) μ) (P (s0 :: s1 :: s2 :: s3 :: s4 :: s5 :: s6 :: s7 :: s8 :: s9 :: x :: l) μ) := ⟨fun h => n_10 h⟩
instance st_n_11 {P : Ss → Mem → Prop} {s0 s1 s2 s3 s4 s5 s6 s7 s8 s9 s10 : SL} {s x : SL} {l : Ss} : Step (nxSet P 11 x (s0 :: s1 :: s2 :: s3 :: s4 :: s5 :: s6 :: s7 :: s8 :: s9 :: s10 :: s :: l) μ) (P (s0 :: s1 :: s2 :: s3 :: s4 :: s5 :: s6 :: s7 :: s8 :: s9 :: s10 :: x :: l) μ) := ⟨fun h => n_11 h⟩
instance st_app_0 {de : DE} {a : List D} {l : Ss} : Step (dApp 0 de ⟨nx, rt, bk, ct⟩ (.own (.lst a) :: l) μ) (de (.own (.lst a) :: l) μ fun d δ1 μ1 => apNx nx 0 d δ1 μ1) := ⟨fun h => app_0 h⟩
instance st_app_1 {de : DE} {s0 : SL} {a : List D} {l : Ss} : Step (dApp 1 de ⟨nx, rt, bk, ct⟩ (s0 :: .own (.lst a) :: l) μ) (de (s0 :: .own (.lst a) :: l) μ fun d δ1 μ1 => apNx nx 1 d δ1 μ1) := ⟨fun h => app_1 h⟩
instance st_app_2 {de : DE} {s0 s1 : SL} {a : List D} {l : Ss} : Step (dApp 2 de ⟨nx, rt, bk, ct⟩ (s0 :: s1 :: .own (.lst a) :: l) μ) (de (s0 :: s1 :: .own (.lst a) :: l) μ fun d δ1 μ1 => apNx nx 2 d δ1 μ1) := ⟨fun h => app_2 h⟩
instance st_app_3 {de : DE} {s0 s1 s2 : SL} {a : List D} {l : Ss} : Step (dApp 3 de ⟨nx, rt, bk, ct⟩ (s0 :: s1 :: s2 :: .own (.lst a) :: l) μ) (de (s0 :: s1 :: s2 :: .own (.lst a) :: l) μ fun d δ1 μ1 => apNx nx 3 d δ1 μ1) := ⟨fun h => app_3 h⟩
instance st_app_4 {de : DE} {s0 s1 s2 s3 : SL} {a : List D} {l : Ss} : Step (dApp 4 de ⟨nx, rt, bk, ct⟩ (s0 :: s1 :: s2 :: s3 :: .own (.lst a) :: l) μ) (de (s0 :: s1 :: s2 :: s3 :: .own (.lst a) :: l) μ fun d δ1 μ1 => apNx nx 4 d δ1 μ1) := ⟨fun h => app_4 h⟩
instance st_app_5 {de : DE} {s0 s1 s2 s3 s4 : SL} {a : List D} {l : Ss} : Step (dApp 5 de ⟨nx, rt, bk, ct⟩ (s0 :: s1 :: s2 :: s3 :: s4 :: .own (.lst a) :: l) μ) (de (s0 :: s1 :: s2 :: s3 :: s4 :: .own (.lst a) :: l) μ fun d δ1 μ1 => apNx nx 5 d δ1 μ1) := ⟨fun h => app_5 h⟩
instance st_app_6 {de : DE} {s0 s1 s2 s3 s4 s5 : SL} {a : List D} {l : Ss} : Step (dApp 6 de ⟨nx, rt, bk, ct⟩ (s0 :: s1 :: s2 :: s3 :: s4 :: s5 :: .own (.lst a) :: l) μ) (de (s0 :: s1 :: s2 :: s3 :: s4 :: s5 :: .own (.lst a) :: l) μ fun d δ1 μ1 => apNx nx 6 d δ1 μ1) := ⟨fun h => app_6 h⟩
instance st_app_7 {de : DE} {s0 s1 s2 s3 s4 s5 s6 : SL} {a : List D} {l : Ss} : Step (dApp 7 de ⟨nx, rt, bk, ct⟩ (s0 :: s1 :: s2 :: s3 :: s4 :: s5 :: s6 :: .own (.lst a) :: l) μ) (de (s0 :: s1 :: s2 :: s3 :: s4 :: s5 :: s6 :: .own (.lst a) :: l) μ fun d δ1 μ1 => apNx nx 7 d δ1 μ1) := ⟨fun h => app_7 h⟩
instance st_app_8 {de : DE} {s0 s1 s2 s3 s4 s5 s6 s7 : SL} {a : List D} {l : Ss} : Step (dApp 8 de ⟨nx, rt, bk, ct⟩ (s0 :: s1 :: s2 :: s3 :: s4 :: s5 :: s6 :: s7 :: .own (.lst a) :: l) μ) (de (s0 :: s1 :: s2 :: s3 :: s4 :: s5 :: s6 :: s7 :: .own (.lst a) :: l) μ fun d δ1 μ1 => apNx nx 8 d δ1 μ1) := ⟨fun h => app_8 h⟩
instance st_app_9 {de : DE} {s0 s1 s2 s3 s4 s5 s6 s7 s8 : SL} {a : List D} {l : Ss} : Step (dApp 9 de ⟨nx, rt, bk, ct⟩ (s0 :: s1 :: s2 :: s3 :: s4 :: s5 :: s6 :: s7 :: s8 :: .own (.lst a) :: l) μ) (de (s0 :: s1 :: s2 :: s3 :: s4 :: s5 :: s6 :: s7 :: s8 :: .own (.lst a) :: l) μ fun d δ1 μ1 => apNx nx 9 d δ1 μ1) := ⟨fun h => app_9 h⟩
instance st_app_10 {de : DE} {s0 s1 s2 s3 s4 s5 s6 s7 s8 s9 : SL} {a : List D} {l : Ss} : Step (dApp 10 de ⟨nx, rt, bk, ct⟩ (s0 :: s1 :: s2 :: s3 :: s4 :: s5 :: s6 :: s7 :: s8 :: s9 :: .own (.lst a) :: l) μ) (de (s0 :: s1 :: s2 :: s3 :: s4 :: s5 :: s6 :: s7 :: s8 :: s9 :: .own (.lst a) :: l) μ fun d δ1 μ1 => apNx nx 10 d δ1 μ1) := ⟨fun h => app_10 h⟩
instance st_app_11 {de : DE} {s0 s1 s2 s3 s4 s5 s6 s7 s8 s9 s10 : SL} {a : List D} {l : Ss} : Step (dApp 11 de ⟨nx, rt, bk, ct⟩ (s0 :: s1 :: s2 :: s3 :: s4 :: s5 :: s6 :: s7 :: s8 :: s9 :: s10 :: .own (.lst a) :: l) μ) (de (s0 :: s1 :: s2 :: s3 :: s4 :: s5 :: s6 :: s7 :: s8 :: s9 :: s10 :: .own (.lst a) :: l) μ fun d δ1 μ1 => apNx nx 11 d δ1 μ1) := ⟨fun h => app_11 h⟩
instance st_aug_0 {de : DE} {f : Int → Int → Int} {n : Int} {l : Ss} : Step (dAug 0 de f ⟨nx, rt, bk, ct⟩ (.val (.int n) :: l) μ) (de (.val (.int n) :: l) μ fun d δ1 μ1 => ∃ m, d = .int m ∧ nxSet nx 0 (.val (.int (f n m))) δ1 μ1) := ⟨fun h => aug_0 h⟩
instance st_aug_1 {de : DE} {f : Int → Int → Int} {s0 : SL} {n : Int} {l : Ss} : Step (dAug 1 de f ⟨nx, rt, bk, ct⟩ (s0 :: .val (.int n) :: l) μ) (de (s0 :: .val (.int n) :: l) μ fun d δ1 μ1 => ∃ m, d = .int m ∧ nxSet nx 1 (.val (.int (f n m))) δ1 μ1) := ⟨fun h => aug_1 h⟩
instance st_aug_2 {de : DE} {f : Int → Int → Int} {s0 s1 : SL} {n : Int} {l : Ss} : Step (dAug 2 de f ⟨nx, rt, bk, ct⟩ (s0 :: s1 :: .val (.int n) :: l) μ) (de (s0 :: s1 :: .val (.int n) :: l) μ fun d δ1 μ1 => ∃ m, d = .int m ∧ nxSet nx 2 (.val (.int (f n m))) δ1 μ1) := ⟨fun h => aug_2 h⟩
instance st_aug_3 {de : DE} {f : Int → Int → Int} {s0 s1 s2 : SL} {n : Int} {l : Ss} : Step (dAug 3 de f ⟨nx, rt, bk, ct⟩ (s0 :: s1 :: s2 :: .val (.int n) :: l) μ) (de (s0 :: s1 :: s2 :: .val (.int n) :: l) μ fun d δ1 μ1 => ∃ m, d = .int m ∧ nxSet nx 3 (.val (.int (f n m))) δ1 μ1) := ⟨fun h => aug_3 h⟩
instance st_aug_4 {de : DE} {f : Int → Int → Int} {s0 s1 s2 s3 : SL} {n : Int} {l : Ss} : Step (dAug 4 de f ⟨nx, rt, bk, ct⟩ (s0 :: s1 :: s2 :: s3 :: .val (.int n) :: l) μ) (de (s0 :: s1 :: s2 :: s3 :: .val (.int n) :: l) μ fun d δ1 μ1 => ∃ m, d = .int m ∧ nxSet nx 4 (.val (.int (f n m))) δ1 μ1) := ⟨fun h => aug_4 h⟩
instance st_aug_5 {de : DE} {f : Int → Int → Int} {s0 s1 s2 s3 s4 : SL} {n : Int} {l : Ss} : Step (dAug 5 de f ⟨nx, rt, bk, ct⟩ (s0 :: s1 :: s2 :: s3 :: s4 :: .val (.int n) :: l) μ) (de (s0 :: s1 :: s2 :: s3 :: s4 :: .val (.int n) :: l) μ fun d δ1 μ1 => ∃ m, d = .int m ∧ nxSet nx 5 (.val (.int (f n m))) δ1 μ1) := ⟨fun h => aug_5 h⟩
instance st_aug_6 {de : DE} {f : Int → Int → Int} {s0 s1 s2 s3 s4 s5 : SL} {n : Int} {l : Ss} : Step (dAug 6 de f ⟨nx, rt, bk, ct⟩ (s0 :: s1 :: s2 :: s3 :: s4 :: s5 :: .val (.int n) :: l) μ) (de (s0 :: s1 :: s2 :: s3 :: s4 :: s5 :: .val (.int n) :: l) μ fun d δ1 μ1 => ∃ m, d = .int m ∧ nxSet nx 6 (.val (.int (f n m))) δ1 μ1) := ⟨fun h => aug_6 h⟩
instance st_aug_7 {de : DE} {f : Int → Int → Int} {s0 s1 s2 s3 s4 s5 s6 : SL} {n : Int} {l : Ss} : Step (dAug 7 de f ⟨nx, rt, bk, ct⟩ (s0 :: s1 :: s2 :: s3 :: s4 :: s5 :: s6 :: .val (.int n) :: l) μ) (de (s0 :: s1 :: s2 :: s3 :: s4 :: s5 :: s6 :: .val (.int n) :: l) μ fun d δ1 μ1 => ∃ m, d = .int m ∧ nxSet nx 7 (.val (.int (f n m))) δ1 μ1) := ⟨fun h => aug_7 h⟩
instance st_aug_8 {de : DE} {f : Int → Int → Int} {s0 s1 s2 s3 s4 s5 s6 s7 : SL} {n : Int} {l : Ss} : Step (dAug 8 de f ⟨nx, rt, bk, ct⟩ (s0 :: s1 :: s2 :: s3 :: s4 :: s5 :: s6 :: s7 :: .val (.int n) :: l) μ) (de (s0 :: s1 :: s2 :: s3 :: s4 :: s5 :: s6 :: s7 :: .val (.int n) :: l) μ fun d δ1 μ1 => ∃ m, d = .int m ∧ nxSet nx 8 (.val (.int (f n m))) δ1 μ1) := ⟨fun h => aug_8 h⟩
instance st_aug_9 {de : DE} {f : Int → Int → Int} {s0 s1 s2 s3 s4 s5 s6 s7 s8 : SL} {n : Int} {l : Ss} : Step (dAug 9 de f ⟨nx, rt, bk, ct⟩ (s0 :: s1 :: s2 :: s3 :: s4 :: s5 :: s6 :: s7 :: s8 :: .val (.int n) :: l) μ) (de (s0 :: s1 :: s2 :: s3 :: s4 :: s5 :: s6 :: s7 :: s8 :: .val (.int n) :: l) μ fun d δ1 μ1 => ∃ m, d = .int m ∧ nxSet nx 9 (.val (.int (f n m))) δ1 μ1) := ⟨fun h => aug_9 h⟩
instance st_aug_10 {de : DE} {f : Int → Int → Int} {s0 s1 s2 s3 s4 s5 s6 s7 s8 s9 : SL} {n : Int} {l : Ss} : Step (dAug 10 de f ⟨nx, rt, bk, ct⟩ (s0 :: s1 :: s2 :: s3 :: s4 :: s5 :: s6 :: s7 :: s8 :: s9 :: .val (.int n) :: l) μ) (de (s0 :: s1 :: s2 :: s3 :: s4 :: s5 :: s6 :: s7 :: s8 :: s9 :: .val (.int n) :: l) μ fun d δ1 μ1 => ∃ m, d = .int m ∧ nxSet nx 10 (.val (.int (f n m))) δ1 μ1) := ⟨fun h => aug_10 h⟩
instance st_aug_11 {de : DE} {f : Int → Int → Int} {s0 s1 s2 s3 s4 s5 s6 s7 s8 s9 s10 : SL} {n : Int} {l : Ss} : Step (dAug 11 de f ⟨nx, rt, bk, ct⟩ (s0 :: s1 :: s2 :: s3 :: s4 :: s5 :: s6 :: s7 :: s8 :: s9 :: s10 :: .val (.int n) :: l) μ) (de (s0 :: s1 :: s2 :: s3 :: s4 :: s5 :: s6 :: s7 :: s8 :: s9 :: s10 :: .val (.int n) :: l) μ fun d δ1 μ1 => ∃ m, d = .int m ∧ nxSet nx 11 (.val (.int (f n m))) δ1 μ1) := ⟨fun h => aug_11 h⟩
instance st_oo_0 {d1 d2 : DE} {m : MO} {l : Ss} : Step (dOO 0 d1 d2 (.own m :: l) μ Q) (d1 (.own m :: l) μ Q) := ⟨fun h => oo_0 h⟩
instance st_ov_0 {d1 d2 : DE} {d : D} {l : Ss} : Step (dOO 0 d1 d2 (.val d :: l) μ Q) (d2 (.val d :: l) μ Q) := ⟨fun h => ov_0 h⟩
instance st_to_0 {d1 d2 : DT} {R : Bool → Ss → Mem → Prop} {m : MO} {l : Ss} : Step (dOT 0 d1 d2 (.own m :: l) μ R) (d1 (.own m :: l) μ R) := ⟨fun h => to_0 h⟩
instance st_tv_0 {d1 d2 : DT} {R : Bool → Ss → Mem → Prop} {d : D} {l : Ss} : Step (dOT 0 d1 d2 (.val d :: l) μ R) (d2 (.val d :: l) μ R) := ⟨fun h => tv_0 h⟩
instance st_lo_0 {a : List D} {l : Ss} : Step (dLenO 0 (.own (.lst a) :: l) μ Q) (Q (.int a.length) (.own (.lst a) :: l) μ) := ⟨fun h => lo_0 h⟩
instance st_so_0 {dl dh : DO} {m : MO} {l : Ss} : Step (dSlO 0 dl dh (.own m :: l) μ Q) (dl (.own m :: l) μ fun lo δ1 μ1 => dh δ1 μ1 fun hi δ2 μ2 => SlO 0 lo hi δ2 μ2 Q) := ⟨fun h => so_0 h⟩
instance st_se_0 {a : List D} {lo hi : Option Int} {l : Ss} : Step (SlO 0 lo hi (.own (.lst a) :: l) μ Q) (Q (.lst (cutD a lo hi)) (.own (.lst a) :: l) μ) := ⟨fun h => se_0 h⟩
instance st_xo_0 {db : DE} {m : MO} {l : Ss} : Step (dIxO 0 db (.own m :: l) μ Q) (db (.own m :: l) μ fun y δ1 μ1 => IxO 0 y δ1 μ1 Q) := ⟨fun h => xo_0 h⟩
instance st_xe_0 {a : List D} {y : D} {l : Ss} : Step (IxO 0 y (.own (.lst a) :: l) μ Q) (rdIx (.lst a) y μ fun d μ1 => Q d (.own (.lst a) :: l) μ1) := ⟨fun h => xe_0 h⟩
instance st_oo_1 {d1 d2 : DE} {s0 : SL} {m : MO} {l : Ss} : Step (dOO 1 d1 d2 (s0 :: .own m :: l) μ Q) (d1 (s0 :: .own m :: l) μ Q) := ⟨fun h => oo_1 h⟩
instance st_ov_1 {d1 d2 : DE} {s0 : SL} {d : D} {l : Ss} : Step (dOO 1 d1 d2 (s0 :: .val d :: l) μ Q) (d2 (s0 :: .val d :: l) μ Q) := ⟨fun h => ov_1 h⟩
instance st_to_1 {d1 d2 : DT} {R : Bool → Ss → Mem → Prop} {s0 : SL} {m : MO} {l : Ss} : Step (dOT 1 d1 d2 (s0 :: .own m :: l) μ R) (d1 (s0 :: .own m :: l) μ R) := ⟨fun h => to_1 h⟩
instance st_tv_1 {d1 d2 : DT} {R : Bool → Ss → Mem → Prop} {s0 : SL} {d : D} {l : Ss} : Step (dOT 1 d1 d2 (s0 :: .val d :: l) μ R) (d2 (s0 :: .val d :: l) μ R) := ⟨fun h => tv_1 h⟩
instance st_lo_1 {s0 : SL} {a : List D} {l : Ss} : Step (dLenO 1 (s0 :: .own (.lst a) :: l) μ Q) (Q (.int a.length) (s0 :: .own (.lst a) :: l) μ) := ⟨fun h => lo_1 h⟩
instance st_so_1 {dl dh : DO} {s0 : SL} {m : MO} {l : Ss} : Step (dSlO 1 dl dh (s0 :: .own m :: l) μ Q) (dl (s0 :: .own m :: l) μ fun lo δ1 μ1 => dh δ1 μ1 fun hi δ2 μ2 => SlO 1 lo hi δ2 μ2 Q) := ⟨fun h => so_1 h⟩
instance st_se_1 {s0 : SL} {a : List D} {lo hi : Option Int} {l : Ss} : Step (SlO 1 lo hi (s0 :: .own (.lst a) :: l) μ Q) (Q (.lst (cutD a lo hi)) (s0 :: .own (.lst a) :: l) μ) := ⟨fun h => se_1 h⟩
instance st_xo_1 {db : DE} {s0 : SL} {m : MO} {l : Ss} : Step (dIxO 1 db (s0 :: .own m :: l) μ Q) (db (s0 :: .own m :: l) μ fun y δ1 μ1 => IxO 1 y δ1 μ1 Q) := ⟨fun h => xo_1 h⟩
instance st_xe_1 {s0 : SL} {a : List D} {y : D} {l : Ss} : Step (IxO 1 y (s0 :: .own (.lst a) :: l) μ Q) (rdIx (.lst a) y μ fun d μ1 => Q d (s0 :: .own (.lst a) :: l) μ1) := ⟨fun h => xe_1 h⟩
instance st_oo_2 {d1 d2 : DE} {s0 s1 : SL} {m : MO} {l : Ss} : Step (dOO 2 d1 d2 (s0 :: s1 :: .own m :: l) μ Q) (d1 (s0 :: s1 :: .own m :: l) μ Q) := ⟨fun h => oo_2 h⟩
instance st_ov_2 {d1 d2 : DE} {s0 s1 : SL} {d : D} {l : Ss} : Step (dOO 2 d1 d2 (s0 :: s1 :: .val d :: l) μ Q) (d2 (s0 :: s1 :: .val d :: l) μ Q) := ⟨fun h => ov_2 h⟩
instance st_to_2 {d1 d2 : DT} {R : Bool → Ss → Mem → Prop} {s0 s1 : SL} {m : MO} {l : Ss} : Step (dOT 2 d1 d2 (s0 :: s1 :: .own m :: l) μ R) (d1 (s0 :: s1 :: .own m :: l) μ R) := ⟨fun h => to_2 h⟩
instance st_tv_2 {d1 d2 : DT} {R : Bool → Ss → Mem → Prop} {s0 s1 : SL} {d : D} {l : Ss} : Step (dOT 2 d1 d2 (s0 :: s1 :: .val d :: l) μ R) (d2 (s0 :: s1 :: .val d :: l) μ R) := ⟨fun h => tv_2 h⟩
instance st_lo_2 {s0 s1 : SL} {a : List D} {l : Ss} : Step (dLenO 2 (s0 :: s1 :: .own (.lst a) :: l) μ Q) (Q (.int a.length) (s0 :: s1 :: .own (.lst a) :: l) μ) := ⟨fun h => lo_2 h⟩
instance st_so_2 {dl dh : DO} {s0 s1 : SL} {m : MO} {l : Ss} : Step (dSlO 2 dl dh (s0 :: s1 :: .own m :: l) μ Q) (dl (s0 :: s1 :: .own m :: l) μ fun lo δ1 μ1 => dh δ1 μ1 fun hi δ2 μ2 => SlO 2 lo hi δ2 μ2 Q) := ⟨fun h => so_2 h⟩
instance st_se_2 {s0 s1 : SL} {a : List D} {lo hi : Option Int} {l : Ss} : Step (SlO 2 lo hi (s0 :: s1 :: .own (.lst a) :: l) μ Q) (Q (.lst (cutD a lo hi)) (s0 :: s1 :: .own (.lst a) :: l) μ) := ⟨fun h => se_2 h⟩
instance st_xo_2 {db : DE} {s0 s1 : SL} {m : MO} {l : Ss} : Step (dIxO 2 db (s0 :: s1 :: .own m :: l) μ Q) (db (s0 :: s1 :: .own m :: l) μ fun y δ1 μ1 => IxO 2 y δ1 μ1 Q) := ⟨fun h => xo_2 h⟩
instance st_xe_2 {s0 s1 : SL} {a : List D} {y : D} {l : Ss} : Step (IxO 2 y (s0 :: s1 :: .own (.lst a) :: l) μ Q) (rdIx (.lst a) y μ fun d μ1 => Q d (s0 :: s1 :: .own (.lst a) :: l) μ1) := ⟨fun h => xe_2 h⟩
instance st_oo_3 {d1 d2 : DE} {s0 s1 s2 : SL} {m : MO} {l : Ss} : Step (dOO 3 d1 d2 (s0 :: s1 :: s2 :: .own m :: l) μ Q) (d1 (s0 :: s1 :: s2 :: .own m :: l) μ Q) := ⟨fun h => oo_3 h⟩
instance st_ov_3 {d1 d2 : DE} {s0 s1 s2 : SL} {d : D} {l : Ss} : Step (dOO 3 d1 d2 (s0 :: s1 :: s2 :: .val d :: l) μ Q) (d2 (s0 :: s1 :: s2 :: .val d :: l) μ Q) := ⟨fun h => ov_3 h⟩
instance st_to_3 {d1 d2 : DT} {R : Bool → Ss → Mem → Prop} {s0 s1 s2 : SL} {m : MO} {l : Ss} : Step (dOT 3 d1 d2 (s0 :: s1 :: s2 :: .own m :: l) μ R) (d1 (s0 :: s1 :: s2 :: .own m :: l) μ R) := ⟨fun h => to_3 h⟩
instance st_tv_3 {d1 d2 : DT} {R : Bool → Ss → Mem → Prop} {s0 s1 s2 : SL} {d : D} {l : Ss} : Step (dOT 3 d1 d2 (s0 :: s1 :: s2 :: .val d :: l) μ R) (d2 (s0 :: s1 :: s2 :: .val d :: l) μ R) := ⟨fun h => tv_3 h⟩
instance st_lo_3 {s0 s1 s2 : SL} {a : List D} {l : Ss} : Step (dLenO 3 (s0 :: s1 :: s2 :: .own (.lst a) :: l) μ Q) (Q (.int a.length) (s0 :: s1 :: s2 :: .own (.lst a) :: l) μ) := ⟨fun h => lo_3 h⟩
instance st_so_3 {dl dh : DO} {s0 s1 s2 : SL} {m : MO} {l : Ss} : Step (dSlO 3 dl dh (s0 :: s1 :: s2 :: .own m :: l) μ Q) (dl (s0 :: s1 :: s2 :: .own m :: l) μ fun lo δ1 μ1 => dh δ1 μ1 fun hi δ2 μ2 => SlO 3 lo hi δ2 μ2 Q) := ⟨fun h => so_3 h⟩
instance st_se_3 {s0 s1 s2 : SL} {a : List D} {lo hi : Option Int} {l : Ss} : Step (SlO 3 lo hi (s0 :: s1 :: s2 :: .own (.lst a) :: l) μ Q) (Q (.lst (cutD a lo hi)) (s0 :: s1 :: s2 :: .own (.lst a) :: l) μ) := ⟨fun h => se_3 h⟩
instance st_xo_3 {db : DE} {s0 s1 s2 : SL} {m : MO} {l : Ss} : Step (dIxO 3 db (s0 :: s1 :: s2 :: .own m :: l) μ Q) (db (s0 :: s1 :: s2 :: .own m :: l) μ fun y δ1 μ1 => IxO 3 y δ1 μ1 Q) := ⟨fun h => xo_3 h⟩
instance st_xe_3 {s0 s1 s2 : SL} {a : List D} {y : D} {l : Ss} : Step (IxO 3 y (s0 :: s1 :: s2 :: .own (.lst a) :: l) μ Q) (rdIx (.lst a) y μ fun d μ1 => Q d (s0 :: s1 :: s2 :: .own (.lst a) :: l) μ1) := ⟨fun h => xe_3 h⟩
instance st_oo_4 {d1 d2 : DE} {s0 s1 s2 s3 : SL} {m : MO} {l : Ss} : Step (dOO 4 d1 d2 (s0 :: s1 :: s2 :: s3 :: .own m :: l) μ Q) (d1 (s0 :: s1 :: s2 :: s3 :: .own m :: l) μ Q) := ⟨fun h => oo_4 h⟩
instance st_ov_4 {d1 d2 : DE} {s0 s1 s2 s3 : SL} {d : D} {l : Ss} : Step (dOO 4 d1 d2 (s0 :: s1 :: s2 :: s3 :: .val d :: l) μ Q) (d2 (s0 :: s1 :: s2 :: s3 :: .val d :: l) μ Q) := ⟨fun h => ov_4 h⟩
instance st_to_4 {d1 d2 : DT} {R : Bool → Ss → Mem → Prop} {s0 s1 s2 s3 : SL} {m : MO} {l : Ss} : Step (dOT 4 d1 d2 (s0 :: s1 :: s2 :: s3 :: .own m :: l) μ R) (d1 (s0 :: s1 :: s2 :: s3 :: .own m :: l) μ R) := ⟨fun h => to_4 h⟩
instance st_tv_4 {d1 d2 : DT} {R : Bool → Ss → Mem → Prop} {s0 s1 s2 s3 : SL} {d : D} {l : Ss} : Step (dOT 4 d1 d2 (s0 :: s1 :: s2 :: s3 :: .val d :: l) μ R) (d2 (s0 :: s1 :: s2 :: s3 :: .val d :: l) μ R) := ⟨fun h => tv_4 h⟩
instance st_lo_4 {s0 s1 s2 s3 : SL} {a : List D} {l : Ss} : Step (dLenO 4 (s0 :: s1 :: s2 :: s3 :: .own (.lst a) :: l) μ Q) (Q (.int a.length) (s0 :: s1 :: s2 :: s3 :: .own (.lst a) :: l) μ) := ⟨fun h => lo_4 h⟩
instance st_so_4 {dl dh : DO} {s0 s1 s2 s3 : SL} {m : MO} {l : Ss} : Step (dSlO 4 dl dh (s0 :: s1 :: s2 :: s3 :: .own m :: l) μ Q) (dl (s0 :: s1 :: s2 :: s3 :: .own m :: l) μ fun lo δ1 μ1 => dh δ1 μ1 fun hi δ2 μ2 => SlO 4 lo hi δ2 μ2 Q) := ⟨fun h => so_4 h⟩
instance st_se_4 {s0 s1 s2 s3 : SL} {a : List D} {lo hi : Option Int} {l : Ss} : Step (SlO 4 lo hi (s0 :: s1 :: s2 :: s3 :: .own (.lst a) :: l) μ Q) (Q (.lst (cutD a lo hi)) (s0 :: s1 :: s2 :: s3 :: .own (.lst a) :: l) μ) := ⟨fun h => se_4 h⟩
instance st_xo_4 {db : DE} {s0 s1 s2 s3 : SL} {m : MO} {l : Ss} : Step (dIxO 4 db (s0 :: s1 :: s2 :: s3 :: .own m :: l) μ Q) (db (s0 :: s1 :: s2 :: s3 :: .own m :: l) μ fun y δ1 μ1 => IxO 4 y δ1 μ1 Q) := ⟨fun h => xo_4 h⟩
instance st_xe_4 {s0 s1 s2 s3 : SL} {a : List D} {y : D} {l : Ss} : Step (IxO 4 y (s0 :: s1 :: s2 :: s3 :: .own (.lst a) :: l) μ Q) (rdIx (.lst a) y μ fun d μ1 => Q d (s0 :: s1 :: s2 :: s3 :: .own (.lst a) :: l) μ1) := ⟨fun h => xe_4 h⟩
instance st_oo_5 {d1 d2 : DE} {s0 s1 s2 s3 s4 : SL} {m : MO} {l : Ss} : Step (dOO 5 d1 d2 (s0 :: s1 :: s2 :: s3 :: s4 :: .own m :: l) μ Q) (d1 (s0 :: s1 :: s2 :: s3 :: s4 :: .own m :: l) μ Q) := ⟨fun h => oo_5 h⟩
instance st_ov_5 {d1 d2 : DE} {s0 s1 s2 s3 s4 : SL} {d : D} {l : Ss} : Step (dOO 5 d1 d2 (s0 :: s1 :: s2 :: s3 :: s4 :: .val d :: l) μ Q) (d2 (s0 :: s1 :: s2 :: s3 :: s4 :: .val d :: l) μ Q) := ⟨fun h => ov_5 h⟩
instance st_to_5 {d1 d2 : DT} {R : Bool → Ss → Mem → Prop} {s0 s1 s2 s3 s4 : SL} {m : MO} {l : Ss} : Step (dOT 5 d1 d2 (s0 :: s1 :: s2 :: s3 :: s4 :: .own m :: l) μ R) (d1 (s0 :: s1 :: s2 :: s3 :: s4 :: .own m :: l) μ R) := ⟨fun h => to_5 h⟩
instance st_tv_5 {d1 d2 : DT} {R : Bool → Ss → Mem → Prop} {s0 s1 s2 s3 s4 : SL} {d : D} {l : Ss} : Step (dOT 5 d1 d2 (s0 :: s1 :: s2 :: s3 :: s4 :: .val d :: l) μ R) (d2 (s0 :: s1 :: s2 :: s3 :: s4 :: .val d :: l) μ R) := ⟨fun h => tv_5 h⟩
instance st_lo_5 {s0 s1 s2 s3 s4 : SL} {a : List D} {l : Ss} : Step (dLenO 5 (s0 :: s1 :: s2 :: s3 :: s4 :: .own (.lst a) :: l) μ Q) (Q (.int a.length) (s0 :: s1 :: s2 :: s3 :: s4 :: .own (.lst a) :: l) μ) := ⟨fun h => lo_5 h⟩
instance st_so_5 {dl dh : DO} {s0 s1 s2 s3 s4 : SL} {m : MO} {l : Ss} : Step (dSlO 5 dl dh (s0 :: s1 :: s2 :: s3 :: s4 :: .own m :: l) μ Q) (dl (s0 :: s1 :: s2 :: s3 :: s4 :: .own m :: l) μ fun lo δ1 μ1 => dh δ1 μ1 fun hi δ2 μ2 => SlO 5 lo hi δ2 μ2 Q) := ⟨fun h => so_5 h⟩
instance st_se_5 {s0 s1 s2 s3 s4 : SL} {a : List D} {lo hi : Option Int} {l : Ss} : Step (SlO 5 lo hi (s0 :: s1 :: s2 :: s3 :: s4 :: .own (.lst a) :: l) μ Q) (Q (.lst (cutD a lo hi)) (s0 :: s1 :: s2 :: s3 :: s4 :: .own (.lst a) :: l) μ) := ⟨fun h => se_5 h⟩
instance st_xo_5 {db : DE} {s0 s1 s2 s3 s4 : SL} {m : MO} {l : Ss} : Step (dIxO 5 db (s0 :: s1 :: s2 :: s3 :: s4 :: .own m :: l) μ Q) (db (s0 :: s1 :: s2 :: s3 :: s4 :: .own m :: l) μ fun y δ1 μ1 => IxO 5 y δ1 μ1 Q) := ⟨fun h => xo_5 h⟩
instance st_xe_5 {s0 s1 s2 s3 s4 : SL} {a : List D} {y : D} {l : Ss} : Step (IxO 5 y (s0 :: s1 :: s2 :: s3 :: s4 :: .own (.lst a) :: l) μ Q) (rdIx (.lst a) y μ fun d μ1 => Q d (s0 :: s1 :: s2 :: s3 :: s4 :: .own (.lst a) :: l) μ1) := ⟨fun h => xe_5 h⟩
instance st_oo_6 {d1 d2 : DE} {s0 s1 s2 s3 s4 s5 : SL} {m : MO} {l : Ss} : Step (dOO 6 d1 d2 (s0 :: s1 :: s2 :: s3 :: s4 :: s5 :: .own m :: l) μ Q) (d1 (s0 :: s1 :: s2 :: s3 :: s4 :: s5 :: .own m :: l) μ Q) := ⟨fun h => oo_6 h⟩
instance st_ov_6 {d1 d2 : DE} {s0 s1 s2 s3 s4 s5 : SL} {d : D} {l : Ss} : Step (dOO 6 d1 d2 (s0 :: s1 :: s2 :: s3 :: s4 :: s5 :: .val d :: l) μ Q) (d2 (s0 :: s1 :: s2 :: s3 :: s4 :: s5 :: .val d :: l) μ Q) := ⟨fun h => ov_6 h⟩
instance st_to_6 {d1 d2 : DT} {R : Bool → Ss → Mem → Prop} {s0 s1 s2 s3 s4 s5 : SL} {m : MO} {l : Ss} : Step (dOT 6 d1 d2 (s0 :: s1 :: s2 :: s3 :: s4 :: s5 :: .own m :: l) μ R) (d1 (s0 :: s1 :: s2 :: s3 :: s4 :: s5 :: .own m :: l) μ R) := ⟨fun h => to_6 h⟩
instance st_tv_6 {d1 d2 : DT} {R : Bool → Ss → Mem → Prop} {s0 s1 s2 s3 s4 s5 : SL} {d : D} {l : Ss} : Step (dOT 6 d1 d2 (s0 :: s1 :: s2 :: s3 :: s4 :: s5 :: .val d :: l) μ R) (d2 (s0 :: s1 :: s2 :: s3 :: s4 :: s5 :: .val d :: l) μ R) := ⟨fun h => tv_6 h⟩
instance st_lo_6 {s0 s1 s2 s3 s4 s5 : SL} {a : List D} {l : Ss} : Step (dLenO 6 (s0 :: s1 :: s2 :: s3 :: s4 :: s5 :: .own (.lst a) :: l) μ Q) (Q (.int a.length) (s0 :: s1 :: s2 :: s3 :: s4 :: s5 :: .own (.lst a) :: l) μ) := ⟨fun h => lo_6 h⟩
instance st_so_6 {dl dh : DO} {s0 s1 s2 s3 s4 s5 : SL} {m : MO} {l : Ss} : Step (dSlO 6 dl dh (s0 :: s1 :: s2 :: s3 :: s4 :: s5 :: .own m :: l) μ Q) (dl (s0 :: s1 :: s2 :: s3 :: s4 :: s5 :: .own m :: l) μ fun lo δ1 μ1 => dh δ1 μ1 fun hi δ2 μ2 => SlO 6 lo hi δ2 μ2 Q) := ⟨fun h => so_6 h⟩
instance st_se_6 {s0 s1 s2 s3 s4 s5 : SL} {a : List D} {lo hi : Option Int} {l : Ss} : Step (SlO 6 lo hi (s0 :: s1 :: s2 :: s3 :: s4 :: s5 :: .own (.lst a) :: l) μ Q) (Q (.lst (cutD a lo hi)) (s0 :: s1 :: s2 :: s3 :: s4 :: s5 :: .own (.lst a) :: l) μ) := ⟨fun h => se_6 h⟩
instance st_xo_6 {db : DE} {s0 s1 s2 s3 s4 s5 : SL} {m : MO} {l : Ss} : Step (dIxO 6 db (s0 :: s1 :: s2 :: s3 :: s4 :: s5 :: .own m :: l) μ Q) (db (s0 :: s1 :: s2 :: s3 :: s4 :: s5 :: .own m :: l) μ fun y δ1 μ1 => IxO 6 y δ1 μ1 Q) := ⟨fun h => xo_6 h⟩
instance st_xe_6 {s0 s1 s2 s3 s4 s5 : SL} {a : List D} {y : D} {l : Ss} : Step (IxO 6 y (s0 :: s1 :: s2 :: s3 :: s4 :: s5 :: .own (.lst a) :: l) μ Q) (rdIx (.lst a) y μ fun d μ1 => Q d (s0 :: s1 :: s2 :: s3 :: s4 :: s5 :: .own (.lst a) :: l) μ1) := ⟨fun h => xe_6 h⟩
instance st_oo_7 {d1 d2 : DE} {s0 s1 s2 s3 s4 s5 s6 : SL} {m : MO} {l : Ss} : Step (dOO 7 d1 d2 (s0 :: s1 :: s2 :: s3 :: s4 :: s5 :: s6 :: .own m :: l) μ Q) (d1 (s0 :: s1 :: s2 :: s3 :: s4 :: s5 :: s6 :: .own m :: l) μ Q) := ⟨fun h => oo_7 h⟩
instance st_ov_7 {d1 d2 : DE} {s0 s1 s2 s3 s4 s5 s6 : SL} {d : D} {l : Ss} : Step (dOO 7 d1 d2 (s0 :: s1 :: s2 :: s3 :: s4 :: s5 :: s6 :: .val d :: l) μ Q) (d2 (s0 :: s1 :: s2 :: s3 :: s4 :: s5 :: s6 :: .val d :: l) μ Q) := ⟨fun h => ov_7 h⟩
instance st_to_7 {d1 d2 : DT} {R : Bool → Ss → Mem → Prop} {s0 s1 s2 s3 s4 s5 s6 : SL} {m : MO} {l : Ss} : Step (dOT 7 d1 d2 (s0 :: s1 :: s2 :: s3 :: s4 :: s5 :: s6 :: .own m :: l) μ R) (d1 (s0 :: s1 :: s2 :: s3 :: s4 :: s5 :: s6 :: .own m :: l) μ R) := ⟨fun h => to_7 h⟩
instance st_tv_7 {d1 d2 : DT} {R : Bool → Ss → Mem → Prop} {s0 s1 s2 s3 s4 s5 s6 : SL} {d : D} {l : Ss} : Step (dOT 7 d1 d2 (s0 :: s1 :: s2 :: s3 :: s4 :: s5 :: s6 :: .val d :: l) μ R) (d2 (s0 :: s1 :: s2 :: s3 :: s4 :: s5 :: s6 :: .val d :: l) μ R) := ⟨fun h => tv_7 h⟩
instance st_lo_7 {s0 s1 s2 s3 s4 s5 s6 : SL} {a : List D} {l : Ss} : Step (dLenO 7 (s0 :: s1 :: s2 :: s3 :: s4 :: s5 :: s6 :: .own (.lst a) :: l) μ Q) (Q (.int a.length) (s0 :: s1 :: s2 :: s3 :: s4 :: s5 :: s6 :: .own (.lst a) :: l) μ) := ⟨fun h => lo_7 h⟩
instance st_so_7 {dl dh : DO} {s0 s1 s2 s3 s4 s5 s6 : SL} {m : MO} {l : Ss} : Step (dSlO 7 dl dh (s0 :: s1 :: s2 :: s3 :: s4 :: s5 :: s6 :: .own m :: l) μ Q) (dl (s0 :: s1 :: s2 :: s3 :: s4 :: s5 :: s6 :: .own m :: l) μ fun lo δ1 μ1 => dh δ1 μ1 fun hi δ2 μ2 => SlO 7 lo hi δ2 μ2 Q) := ⟨fun h => so_7 h⟩
instance st_se_7 {s0 s1 s2 s3 s4 s5 s6 : SL} {a : List D} {lo hi : Option Int} {l : Ss} : Step (SlO 7 lo hi (s0 :: s1 :: s2 :: s3 :: s4 :: s5 :: s6 :: .own (.lst a) :: l) μ Q) (Q (.lst (cutD a lo hi)) (s0 :: s1 :: s2 :: s3 :: s4 :: s5 :: s6 :: .own (.lst a) :: l) μ) := ⟨fun h => se_7 h⟩
instance st_xo_7 {db : DE} {s0 s1 s2 s3 s4 s5 s6 : SL} {m : MO} {l : Ss} : Step (dIxO 7 db (s0 :: s1 :: s2 :: s3 :: s4 :: s5 :: s6 :: .own m :: l) μ Q) (db (s0 :: s1 :: s2 :: s3 :: s4 :: s5 :: s6 :: .own m :: l) μ fun y δ1 μ1 => IxO 7 y δ1 μ1 Q) := ⟨fun h => xo_7 h⟩
instance st_xe_7 {s0 s1 s2 s3 s4 s5 s6 : SL} {a : List D} {y : D} {l : Ss} : Step (IxO 7 y (s0 :: s1 :: s2 :: s3 :: s4 :: s5 :: s6 :: .own (.lst a) :: l) μ Q) (rdIx (.lst a) y μ fun d μ1 => Q d (s0 :: s1 :: s2 :: s3 :: s4 :: s5 :: s6 :: .own (.lst a) :: l) μ1) := ⟨fun h => xe_7 h⟩
instance st_oo_8 {d1 d2 : DE} {s0 s1 s2 s3 s4 s5 s6 s7 : SL} {m : MO} {l : Ss} : Step (dOO 8 d1 d2 (s0 :: s1 :: s2 :: s3 :: s4 :: s5 :: s6 :: s7 :: .own m :: l) μ Q) (d1 (s0 :: s1 :: s2 :: s3 :: s4 :: s5 :: s6 :: s7 :: .own m :: l) μ Q) := ⟨fun h => oo_8 h⟩
instance st_ov_8 {d1 d2 : DE} {s0 s1 s2 s3 s4 s5 s6 s7 : SL} {d : D} {l : Ss} : Step (dOO 8 d1 d2 (s0 :: s1 :: s2 :: s3 :: s4 :: s5 :: s6 :: s7 :: .val d :: l) μ Q) (d2 (s0 :: s1 :: s2 :: s3 :: s4 :: s5 :: s6 :: s7 :: .val d :: l) μ Q) := ⟨fun h => ov_8 h⟩
instance st_to_8 {d1 d2 : DT} {R : Bool → Ss → Mem → Prop} {s0 s1 s2 s3 s4 s5 s6 s7 : SL} {m : MO} {l : Ss} : Step (dOT 8 d1 d2 (s0 :: s1 :: s2 :: s3 :: s4 :: s5 :: s6 :: s7 :: .own m :: l) μ R) (d1 (s0 :: s1 :: s2 :: s3 :: s4 :: s5 :: s6 :: s7 :: .own m :: l) μ R) := ⟨fun h => to_8 h⟩
instance st_tv_8 {d1 d2 : DT} {R : Bool → Ss → Mem → Prop} {s0 s1 s2 s3 s4 s5 s6 s7 : SL} {d : D} {l : Ss} : Step (dOT 8 d1 d2 (s0 :: s1 :: s2 :: s3 :: s4 :: s5 :: s6 :: s7 :: .val d :: l) μ R) (d2 (s0 :: s1 :: s2 :: s3 :: s4 :: s5 :: s6 :: s7 :: .val d :: l) μ R) := ⟨fun h => tv_8 h⟩
instance st_lo_8 {s0 s1 s2 s3 s4 s5 s6 s7 : SL} {a : List D} {l : Ss} : Step (dLenO 8 (s0 :: s1 :: s2 :: s3 :: s4 :: s5 :: s6 :: s7 :: .own (.lst a) :: l) μ Q) (Q (.int a.length) (s0 :: s1 :: s2 :: s3 :: s4 :: s5 :: s6 :: s7 :: .own (.lst a) :: l) μ) := ⟨fun h => lo_8 h⟩
instance st_so_8 {dl dh : DO} {s0 s1 s2 s3 s4 s5 s6 s7 : SL} {m : MO} {l : Ss} : Step (dSlO 8 dl dh (s0 :: s1 :: s2 :: s3 :: s4 :: s5 :: s6 :: s7 :: .own m :: l) μ Q) (dl (s0 :: s1 :: s2 :: s3 :: s4 :: s5 :: s6 :: s7 :: .own m :: l) μ fun lo δ1 μ1 => dh δ1 μ1 fun hi δ2 μ2 => SlO 8 lo hi δ2 μ2 Q) := ⟨fun h => so_8 h⟩
instance st_se_8 {s0 s1 s2 s3 s4 s5 s6 s7 : SL} {a : List D} {lo hi : Option Int} {l : Ss} : Step (SlO 8 lo hi (s0 :: s1 :: s2 :: s3 :: s4 :: s5 :: s6 :: s7 :: .own (.lst a) :: l) μ Q) (Q (.lst (cutD a lo hi)) (s0 :: s1 :: s2 :: s3 :: s4 :: s5 :: s6 :: s7 :: .own (.lst a) :: l) μ) := ⟨fun h => se_8 h⟩
instance st_xo_8 {db : DE} {s0 s1 s2 s3 s4 s5 s6 s7 : SL} {m : MO} {l : Ss} : Step (dIxO 8 db (s0 :: s1 :: s2 :: s3 :: s4 :: s5 :: s6 :: s7 :: .own m :: l) μ Q) (db (s0 :: s1 :: s2 :: s3 :: s4 :: s5 :: s6 :: s7 :: .own m :: l) μ fun y δ1 μ1 => IxO 8 y δ1 μ1 Q) := ⟨fun h => xo_8 h⟩
instance st_xe_8 {s0 s1 s2 s3 s4 s5 s6 s7 : SL} {a : List D} {y : D} {l : Ss} : Step (IxO 8 y (s0 :: s1 :: s2 :: s3 :: s4 :: s5 :: s6 :: s7 :: .own (.lst a) :: l) μ Q) (rdIx (.lst a) y μ fun d μ1 => Q d (s0 :: s1 :: s2 :: s3 :: s4 :: s5 :: s6 :: s7 :: .own (.lst a) :: l) μ1) := ⟨fun h => xe_8 h⟩
instance st_oo_9 {d1 d2 : DE} {s0 s1 s2 s3 s4 s5 s6 s7 s8 : SL} {m : MO} {l : Ss} : Step (dOO 9 d1 d2 (s0 :: s1 :: s2 :: s3 :: s4 :: s5 :: s6 :: s7 :: s8 :: .own m :: l) μ Q) (d1 (s0 :: s1 :: s2 :: s3 :: s4 :: s5 :: s6 :: s7 :: s8 :: .own m :: l) μ Q) := ⟨fun h => oo_9 h⟩
instance st_ov_9 {d1 d2 : DE} {s0 s1 s2 s3 s4 s5 s6 s7 s8 : SL} {d : D} {l : Ss} : Step (dOO 9 d1 d2 (s0 :: s1 :: s2 :: s3 :: s4 :: s5 :: s6 :: s7 :: s8 :: .val d :: l) μ Q) (d2 (s0 :: s1 :: s2 :: s3 :: s4 :: s5 :: s6 :: s7 :: s8 :: .val d :: l) μ Q) := ⟨fun h => ov_9 h⟩
instance st_to_9 {d1 d2 : DT} {R : Bool → Ss → Mem → Prop} {s0 s1 s2 s3 s4 s5 s6 s7 s8 : SL} {m : MO} {l : Ss} : Step (dOT 9 d1 d2 (s0 :: s1 :: s2 :: s3 :: s4 :: s5 :: s6 :: s7 :: s8 :: .own m :: l) μ R) (d1 (s0 :: s1 :: s2 :: s3 :: s4 :: s5 :: s6 :: s7 :: s8 :: .own m :: l) μ R) := ⟨fun h => to_9 h⟩
instance st_tv_9 {d1 d2 : DT} {R : Bool → Ss → Mem → Prop} {s0 s1 s2 s3 s4 s5 s6 s7 s8 : SL} {d : D} {l : Ss} : Step (dOT 9 d1 d2 (s0 :: s1 :: s2 :: s3 :: s4 :: s5 :: s6 :: s7 :: s8 :: .val d :: l) μ R) (d2 (s0 :: s1 :: s2 :: s3 :: s4 :: s5 :: s6 :: s7 :: s8 :: .val d :: l) μ R) := ⟨fun h => tv_9 h⟩
instance st_lo_9 {s0 s1 s2 s3 s4 s5 s6 s7 s8 : SL} {a : List D} {l : Ss} : Step (dLenO 9 (s0 :: s1 :: s2 :: s3 :: s4 :: s5 :: s6 :: s7 :: s8 :: .own (.lst a) :: l) μ Q) (Q (.int a.length) (s0 :: s1 :: s2 :: s3 :: s4 :: s5 :: s6 :: s7 :: s8 :: .own (.lst a) :: l) μ) := ⟨fun h => lo_9 h⟩
instance st_so_9 {dl dh : DO} {s0 s1 s2 s3 s4 s5 s6 s7 s8 : SL} {m : MO} {l : Ss} : Step (dSlO 9 dl dh (s0 :: s1 :: s2 :: s3 :: s4 :: s5 :: s6 :: s7 :: s8 :: .own m :: l) μ Q) (dl (s0 :: s1 :: s2 :: s3 :: s4 :: s5 :: s6 :: s7 :: s8 :: .own m :: l) μ fun lo δ1 μ1 => dh δ1 μ1 fun hi δ2 μ2 => SlO 9 lo hi δ2 μ2 Q) := ⟨fun h => so_9 h⟩
instance st_se_9 {s0 s1 s2 s3 s4 s5 s6 s7 s8 : SL} {a : List D} {lo hi : Option Int} {l : Ss} : Step (SlO 9 lo hi (s0 :: s1 :: s2 :: s3 :: s4 :: s5 :: s6 :: s7 :: s8 :: .own (.lst a) :: l) μ Q) (Q (.lst (cutD a lo hi)) (s0 :: s1 :: s2 :: s3 :: s4 :: s5 :: s6 :: s7 :: s8 :: .own (.lst a) :: l) μ) := ⟨fun h => se_9 h⟩
instance st_xo_9 {db : DE} {s0 s1 s2 s3 s4 s5 s6 s7 s8 : SL} {m : MO} {l : Ss} : Step (dIxO 9 db (s0 :: s1 :: s2 :: s3 :: s4 :: s5 :: s6 :: s7 :: s8 :: .own m :: l) μ Q) (db (s0 :: s1 :: s2 :: s3 :: s4 :: s5 :: s6 :: s7 :: s8 :: .own m :: l) μ fun y δ1 μ1 => IxO 9 y δ1 μ1 Q) := ⟨fun h => xo_9 h⟩
instance st_xe_9 {s0 s1 s2 s3 s4 s5 s6 s7 s8 : SL} {a : List D} {y : D} {l : Ss} : Step (IxO 9 y (s0 :: s1 :: s2 :: s3 :: s4 :: s5 :: s6 :: s7 :: s8 :: .own (.lst a) :: l) μ Q) (rdIx (.lst a) y μ fun d μ1 => Q d (s0 :: s1 :: s2 :: s3 :: s4 :: s5 :: s6 :: s7 :: s8 :: .own (.lst a) :: l) μ1) := ⟨fun h => xe_9 h⟩
instance st_oo_10 {d1 d2 : DE} {s0 s1 s2 s3 s4 s5 s6 s7 s8 s9 : SL} {m : MO} {l : Ss} : Step (dOO 10 d1 d2 (s0 :: s1 :: s2 :: s3 :: s4 :: s5 :: s6 :: s7 :: s8 :: s9 :: .own m :: l) μ Q) (d1 (s0 :: s1 :: s2 :: s3 :: s4 :: s5 :: s6 :: s7 :: s8 :: s9 :: .own m :: l) μ Q) := ⟨fun h => oo_10 h⟩
instance st_ov_10 {d1 d2 : DE} {s0 s1 s2 s3 s4 s5 s6 s7 s8 s9 : SL} {d : D} {l : Ss} : Step (dOO 10 d1 d2 (s0 :: s1 :: s2 :: s3 :: s4 :: s5 :: s6 :: s7 :: s8 :: s9 :: .val d :: l) μ Q) (d2 (s0 :: s1 :: s2 :: s3 :: s4 :: s5 :: s6 :: s7 :: s8 :: s9 :: .val d :: l) μ Q) := ⟨fun h => ov_10 h⟩
instance st_to_10 {d1 d2 : DT} {R : Bool → Ss → Mem → Prop} {s0 s1 s2 s3 s4 s5 s6 s7 s8 s9 : SL} {m : MO} {l : Ss} : Step (dOT 10 d1 d2 (s0 :: s1 :: s2 :: s3 :: s4 :: s5 :: s6 :: s7 :: s8 :: s9 :: .own m :: l) μ R) (d1 (s0 :: s1 :: s2 :: s3 :: s4 :: s5 :: s6 :: s7 :: s8 :: s9 :: .own m :: l) μ R) := ⟨fun h => to_10 h⟩
instance st_tv_10 {d1 d2 : DT} {R : Bool → Ss → Mem → Prop} {s0 s1 s2 s3 s4 s5 s6 s7 s8 s9 : SL} {d : D} {l : Ss} : Step (dOT 10 d1 d2 (s0 :: s1 :: s2 :: s3 :: s4 :: s5 :: s6 :: s7 :: s8 :: s9 :: .val d :: l) μ R) (d2 (s0 :: s1 :: s2 :: s3 :: s4 :: s5 :: s6 :: s7 :: s8 :: s9 :: .val d :: l) μ R) := ⟨fun h => tv_10 h⟩
instance st_lo_10 {s0 s1 s2 s3 s4 s5 s6 s7 s8 s9 : SL} {a : List D} {l : Ss} : Step (dLenO 10 (s0 :: s1 :: s2 :: s3 :: s4 :: s5 :: s6 :: s7 :: s8 :: s9 :: .own (.lst a) :: l) μ Q) (Q (.int a.length) (s0 :: s1 :: s2 :: s3 :: s4 :: s5 :: s6 :: s7 :: s8 :: s9 :: .own (.lst a) :: l) μ) := ⟨fun h => lo_10 h⟩
instance st_so_10 {dl dh : DO} {s0 s1 s2 s3 s4 s5 s6 s7 s8 s9 : SL} {m : MO} {l : Ss} : Step (dSlO 10 dl dh (s0 :: s1 :: s2 :: s3 :: s4 :: s5 :: s6 :: s7 :: s8 :: s9 :: .own m :: l) μ Q) (dl (s0 :: s1 :: s2 :: s3 :: s4 :: s5 :: s6 :: s7 :: s8 :: s9 :: .own m :: l) μ fun lo δ1 μ1 => dh δ1 μ1 fun hi δ2 μ2 => SlO 10 lo hi δ2 μ2 Q) := ⟨fun h => so_10 h⟩
instance st_se_10 {s0 s1 s2 s3 s4 s5 s6 s7 s8 s9 : SL} {a : List D} {lo hi : Option Int} {l : Ss} : Step (SlO 10 lo hi (s0 :: s1 :: s2 :: s3 :: s4 :: s5 :: s6 :: s7 :: s8 :: s9 :: .own (.lst a) :: l) μ Q) (Q (.lst (cutD a lo hi)) (s0 :: s1 :: s2 :: s3 :: s4 :: s5 :: s6 :: s7 :: s8 :: s9 :: .own (.lst a) :: l) μ) := ⟨fun h => se_10 h⟩
instance st_xo_10 {db : DE} {s0 s1 s2 s3 s4 s5 s6 s7 s8 s9 : SL} {m : MO} {l : Ss} : Step (dIxO 10 db (s0 :: s1 :: s2 :: s3 :: s4 :: s5 :: s6 :: s7 :: s8 :: s9 :: .own m :: l) μ Q) (db (s0 :: s1 :: s2 :: s3 :: s4 :: s5 :: s6 :: s7 :: s8 :: s9 :: .own m :: l) μ fun y δ1 μ1 => IxO 10 y δ1 μ1 Q) := ⟨fun h => xo_10 h⟩
instance st_xe_10 {s0 s1 s2 s3 s4 s5 s6 s7 s8 s9 : SL} {a : List D} {y : D} {l : Ss} : Step (IxO 10 y (s0 :: s1 :: s2 :: s3 :: s4 :: s5 :: s6 :: s7 :: s8 :: s9 :: .own (.lst a) :: l) μ Q) (rdIx (.lst a) y μ fun d μ1 => Q d (s0 :: s1 :: s2 :: s3 :: s4 :: s5 :: s6 :: s7 :: s8 :: s9 :: .own (.lst a) :: l) μ1) := ⟨fun h => xe_10 h⟩
instance st_oo_11 {d1 d2 : DE} {s0 s1 s2 s3 s4 s5 s6 s7 s8 s9 s10 : SL} {m : MO} {l : Ss} : Step (dOO 11 d1 d2 (s0 :: s1 :: s2 :: s3 :: s4 :: s5 :: s6 :: s7 :: s8 :: s9 :: s10 :: .own m :: l) μ Q) (d1 (s0 :: s1 :: s2 :: s3 :: s4 :: s5 :: s6 :: s7 :: s8 :: s9 :: s10 :: .own m :: l) μ Q) := ⟨fun h => oo_11 h⟩
instance st_ov_11 {d1 d2 : DE} {s0 s1 s2 s3 s4 s5 s6 s7 s8 s9 s10 : SL} {d : D} {l : Ss} : Step (dOO 11 d1 d2 (s0 :: s1 :: s2 :: s3 :: s4 :: s5 :: s6 :: s7 :: s8 :: s9 :: s10 :: .val d :: l) μ Q) (d2 (s0 :: s1 :: s2 :: s3 :: s4 :: s5 :: s6 :: s7 :: s8 :: s9 :: s10 :: .val d :: l) μ Q) := ⟨fun h => ov_11 h⟩
instance st_to_11 {d1 d2 : DT} {R : Bool → Ss → Mem → Prop} {s0 s1 s2 s3 s4 s5 s6 s7 s8 s9 s10 : SL} {m : MO} {l : Ss} : Step (dOT 11 d1 d2 (s0 :: s1 :: s2 :: s3 :: s4 :: s5 :: s6 :: s7 :: s8 :: s9 :: s10 :: .own m :: l) μ R) (d1 (s0 :: s1 :: s2 :: s3 :: s4 :: s5 :: s6 :: s7 :: s8 :: s9 :: s10 :: .own m :: l) μ R) := ⟨fun h => to_11 h⟩
instance st_tv_11 {d1 d2 : DT} {R : Bool → Ss → Mem → Prop} {s0 s1 s2 s3 s4 s5 s6 s7 s8 s9 s10 : SL} {d : D} {l : Ss} : Step (dOT 11 d1 d2 (s0 :: s1 :: s2 :: s3 :: s4 :: s5 :: s6 :: s7 :: s8 :: s9 :: s10 :: .val d :: l) μ R) (d2 (s0 :: s1 :: s2 :: s3 :: s4 :: s5 :: s6 :: s7 :: s8 :: s9 :: s10 :: .val d :: l) μ R) := ⟨fun h => tv_11 h⟩
instance st_lo_11 {s0 s1 s2 s3 s4 s5 s6 s7 s8 s9 s10 : SL} {a : List D} {l : Ss} : Step (dLenO 11 (s0 :: s1 :: s2 :: s3 :: s4 :: s5 :: s6 :: s7 :: s8 :: s9 :: s10 :: .own (.lst a) :: l) μ Q) (Q (.int a.length) (s0 :: s1 :: s2 :: s3 :: s4 :: s5 :: s6 :: s7 :: s8 :: s9 :: s10 :: .own (.lst a) :: l) μ) := ⟨fun h => lo_11 h⟩
instance st_so_11 {dl dh : DO} {s0 s1 s2 s3 s4 s5 s6 s7 s8 s9 s10 : SL} {m : MO} {l : Ss} : Step (dSlO 11 dl dh (s0 :: s1 :: s2 :: s3 :: s4 :: s5 :: s6 :: s7 :: s8 :: s9 :: s10 :: .own m :: l) μ Q) (dl (s0 :: s1 :: s2 :: s3 :: s4 :: s5 :: s6 :: s7 :: s8 :: s9 :: s10 :: .own m :: l) μ fun lo δ1 μ1 => dh δ1 μ1 fun hi δ2 μ2 => SlO 11 lo hi δ2 μ2 Q) := ⟨fun h => so_11 h⟩
instance st_se_11 {s0 s1 s2 s3 s4 s5 s6 s7 s8 s9 s10 : SL} {a : List D} {lo hi : Option Int} {l : Ss} : Step (SlO 11 lo hi (s0 :: s1 :: s2 :: s3 :: s4 :: s5 :: s6 :: s7 :: s8 :: s9 :: s10 :: .own (.lst a) :: l) μ Q) (Q (.lst (cutD a lo hi)) (s0 :: s1 :: s2 :: s3 :: s4 :: s5 :: s6 :: s7 :: s8 :: s9 :: s10 :: .own (.lst a) :: l) μ) := ⟨fun h => se_11 h⟩
instance st_xo_11 {db : DE} {s0 s1 s2 s3 s4 s5 s6 s7 s8 s9 s10 : SL} {m : MO} {l : Ss} : Step (dIxO 11 db (s0 :: s1 :: s2 :: s3 :: s4 :: s5 :: s6 :: s7 :: s8 :: s9 :: s10 :: .own m :: l) μ Q) (db (s0 :: s1 :: s2 :: s3 :: s4 :: s5 :: s6 :: s7 :: s8 :: s9 :: s10 :: .own m :: l) μ fun y δ1 μ1 => IxO 11 y δ1 μ1 Q) := ⟨fun h => xo_11 h⟩
instance st_xe_11 {s0 s1 s2 s3 s4 s5 s6 s7 s8 s9 s10 : SL} {a : List D} {y : D} {l : Ss} : Step (IxO 11 y (s0 :: s1 :: s2 :: s3 :: s4 :: s5 :: s6 :: s7 :: s8 :: s9 :: s10 :: .own (.lst a) :: l) μ Q) (rdIx (.lst a) y μ fun d μ1 => Q d (s0 :: s1 :: s2 :: s3 :: s4 :: s5 :: s6 :: s7 :: s8 :: s9 :: s10 :: .own (.lst a) :: l) μ1) := ⟨fun h => xe_11 h⟩
instance st_lm_0 {lm : LM} {da : DA} {a : List D} {l : Ss} : Step (dLMO 0 lm da (.own (.lst a) :: l) μ Q) (da (.own (.lst a) :: l) μ fun ds δ1 μ1 => LmNx lm 0 ds δ1 μ1 Q) := ⟨fun h => lm_0 h⟩
instance st_lme_0 {lm : LM} {ds : List D} {a : List D} {l : Ss} : Step (LmNx lm 0 ds (.own (.lst a) :: l) μ Q) (lm ds a μ fun d l2 => Q d (.own (.lst l2) :: l) μ) := ⟨fun h => lme_0 h⟩
instance st_eo_0 {neg : Bool} {db : DE} {a : List D} {l : Ss} : Step (dEqO neg 0 db (.own (.lst a) :: l) μ Q) (db (.own (.lst a) :: l) μ fun y δ1 μ1 => EqNx neg 0 y δ1 μ1 Q) := ⟨fun h => eo_0 h⟩
instance st_eoe_0 {neg : Bool} {y : D} {a : List D} {l : Ss} : Step (EqNx neg 0 y (.own (.lst a) :: l) μ Q) (EqV neg (.lst a) y μ fun d => Q d (.own (.lst a) :: l) μ) := ⟨fun h => eoe_0 h⟩
instance st_lm_1 {lm : LM} {da : DA} {s0 : SL} {a : List D} {l : Ss} : Step (dLMO 1 lm da (s0 :: .own (.lst a) :: l) μ Q) (da (s0 :: .own (.lst a) :: l) μ fun ds δ1 μ1 => LmNx lm 1 ds δ1 μ1 Q) := ⟨fun h => lm_1 h⟩
instance st_lme_1 {lm : LM} {ds : List D} {s0 : SL} {a : List D} {l : Ss} : Step (LmNx lm 1 ds (s0 :: .own (.lst a) :: l) μ Q) (lm ds a μ fun d l2 => Q d (s0 :: .own (.lst l2) :: l) μ) := ⟨fun h => lme_1 h⟩
instance st_eo_1 {neg : Bool} {db : DE} {s0 : SL} {a : List D} {l : Ss} : Step (dEqO neg 1 db (s0 :: .own (.lst a) :: l) μ Q) (db (s0 :: .own (.lst a) :: l) μ fun y δ1 μ1 => EqNx neg 1 y δ1 μ1 Q) := ⟨fun h => eo_1 h⟩
instance st_eoe_1 {neg : Bool} {y : D} {s0 : SL} {a : List D} {l : Ss} : Step (EqNx neg 1 y (s0 :: .own (.lst a) :: l) μ Q) (EqV neg (.lst a) y μ fun d => Q d (s0 :: .own (.lst a) :: l) μ) := ⟨fun h => eoe_1 h⟩
instance st_lm_2 {lm : LM} {da : DA} {s0 s1 : SL} {a : List D} {l : Ss} : Step (dLMO 2 lm da (s0 :: s1 :: .own (.lst a) :: l) μ Q) (da (s0 :: s1 :: .own (.lst a) :: l) μ fun ds δ1 μ1 => LmNx lm 2 ds δ1 μ1 Q) := ⟨fun h => lm_2 h⟩
instance st_lme_2 {lm : LM} {ds : List D} {s0 s1 : SL} {a : List D} {l : Ss} : Step (LmNx lm 2 ds (s0 :: s1 :: .own (.lst a) :: l) μ Q) (lm ds a μ fun d l2 => Q d (s0 :: s1 :: .own (.lst l2) :: l) μ) := ⟨fun h => lme_2 h⟩
instance st_eo_2 {neg : Bool} {db : DE} {s0 s1 : SL} {a : List D} {l : Ss} : Step (dEqO neg 2 db (s0 :: s1 :: .own (.lst a) :: l) μ Q) (db (s0 :: s1 :: .own (.lst a) :: l) μ fun y δ1 μ1 => EqNx neg 2 y δ1 μ1 Q) := ⟨fun h => eo_2 h⟩
instance st_eoe_2 {neg : Bool} {y : D} {s0 s1 : SL} {a : List D} {l : Ss} : Step (EqNx neg 2 y (s0 :: s1 :: .own (.lst a) :: l) μ Q) (EqV neg (.lst a) y μ fun d => Q d (s0 :: s1 :: .own (.lst a) :: l) μ) := ⟨fun h => eoe_2 h⟩
instance st_lm_3 {lm : LM} {da : DA} {s0 s1 s2 : SL} {a : List D} {l : Ss} : Step (dLMO 3 lm da (s0 :: s1 :: s2 :: .own (.lst a) :: l) μ Q) (da (s0 :: s1 :: s2 :: .own (.lst a) :: l) μ fun ds δ1 μ1 => LmNx lm 3 ds δ1 μ1 Q) := ⟨fun h => lm_3 h⟩
instance st_lme_3 {lm : LM} {ds : List D} {s0 s1 s2 : SL} {a : List D} {l : Ss} : Step (LmNx lm 3 ds (s0 :: s1 :: s2 :: .own (.lst a) :: l) μ Q) (lm ds a μ fun d l2 => Q d (s0 :: s1 :: s2 :: .own (.lst l2) :: l) μ) := ⟨fun h => lme_3 h⟩
instance st_eo_3 {neg : Bool} {db : DE} {s0 s1 s2 : SL} {a : List D} {l : Ss} : Step (dEqO neg 3 db (s0 :: s1 :: s2 :: .own (.lst a) :: l) μ Q) (db (s0 :: s1 :: s2 :: .own (.lst a) :: l) μ fun y δ1 μ1 => EqNx neg 3 y δ1 μ1 Q) := ⟨fun h => eo_3 h⟩
instance st_eoe_3 {neg : Bool} {y : D} {s0 s1 s2 : SL} {a : List D} {l : Ss} : Step (EqNx neg 3 y (s0 :: s1 :: s2 :: .own (.lst a) :: l) μ Q) (EqV neg (.lst a) y μ fun d => Q d (s0 :: s1 :: s2 :: .own (.lst a) :: l) μ) := ⟨fun h => eoe_3 h⟩
instance st_lm_4 {lm : LM} {da : DA} {s0 s1 s2 s3 : SL} {a : List D} {l : Ss} : Step (dLMO 4 lm da (s0 :: s1 :: s2 :: s3 :: .own (.lst a) :: l) μ Q) (da (s0 :: s1 :: s2 :: s3 :: .own (.lst a) :: l) μ fun ds δ1 μ1 => LmNx lm 4 ds δ1 μ1 Q) := ⟨fun h => lm_4 h⟩
instance st_lme_4 {lm : LM} {ds : List D} {s0 s1 s2 s3 : SL} {a : List D} {l : Ss} : Step (LmNx lm 4 ds (s0 :: s1 :: s2 :: s3 :: .own (.lst a) :: l) μ Q) (lm ds a μ fun d l2 => Q d (s0 :: s1 :: s2 :: s3 :: .own (.lst l2) :: l) μ) := ⟨fun h => lme_4 h⟩
instance st_eo_4 {neg : Bool} {db : DE} {s0 s1 s2 s3 : SL} {a : List D} {l : Ss} : Step (dEqO neg 4 db (s0 :: s1 :: s2 :: s3 :: .own (.lst a) :: l) μ Q) (db (s0 :: s1 :: s2 :: s3 :: .own (.lst a) :: l) μ fun y δ1 μ1 => EqNx neg 4 y δ1 μ1 Q) := ⟨fun h => eo_4 h⟩
instance st_eoe_4 {neg : Bool} {y : D} {s0 s1 s2 s3 : SL} {a : List D} {l : Ss} : Step (EqNx neg 4 y (s0 :: s1 :: s2 :: s3 :: .own (.lst a) :: l) μ Q) (EqV neg (.lst a) y μ fun d => Q d (s0 :: s1 :: s2 :: s3 :: .own (.lst a) :: l) μ) := ⟨fun h => eoe_4 h⟩
instance st_lm_5 {lm : LM} {da : DA} {s0 s1 s2 s3 s4 : SL} {a : List D} {l : Ss} : Step (dLMO 5 lm da (s0 :: s1 :: s2 :: s3 :: s4 :: .own (.lst a) :: l) μ Q) (da (s0 :: s1 :: s2 :: s3 :: s4 :: .own (.lst a) :: l) μ fun ds δ1 μ1 => LmNx lm 5 ds δ1 μ1 Q) := ⟨fun h => lm_5 h⟩
instance st_lme_5 {lm : LM} {ds : List D} {s0 s1 s2 s3 s4 : SL} {a : List D} {l : Ss} : Step (LmNx lm 5 ds (s0 :: s1 :: s2 :: s3 :: s4 :: .own (.lst a) :: l) μ Q) (lm ds a μ fun d l2 => Q d (s0 :: s1 :: s2 :: s3 :: s4 :: .own (.lst l2) :: l) μ) := ⟨fun h => lme_5 h⟩
instance st_eo_5 {neg : Bool} {db : DE} {s0 s1 s2 s3 s4 : SL} {a : List D} {l : Ss} : Step (dEqO neg 5 db (s0 :: s1 :: s2 :: s3 :: s4 :: .own (.lst a) :: l) μ Q) (db (s0 :: s1 :: s2 :: s3 :: s4 :: .own (.lst a) :: l) μ fun y δ1 μ1 => EqNx neg 5 y δ1 μ1 Q) := ⟨fun h => eo_5 h⟩
instance st_eoe_5 {neg : Bool} {y : D} {s0 s1 s2 s3 s4 : SL} {a : List D} {l : Ss} : Step (EqNx neg 5 y (s0 :: s1 :: s2 :: s3 :: s4 :: .own (.lst a) :: l) μ Q) (EqV neg (.lst a) y μ fun d => Q d (s0 :: s1 :: s2 :: s3 :: s4 :: .own (.lst a) :: l) μ) := ⟨fun h => eoe_5 h⟩
instance st_lm_6 {lm : LM} {da : DA} {s0 s1 s2 s3 s4 s5 : SL} {a : List D} {l : Ss} : Step (dLMO 6 lm da (s0 :: s1 :: s2 :: s3 :: s4 :: s5 :: .own (.lst a) :: l) μ Q) (da (s0 :: s1 :: s2 :: s3 :: s4 :: s5 :: .own (.lst a) :: l) μ fun ds δ1 μ1 => LmNx lm 6 ds δ1 μ1 Q) := ⟨fun h => lm_6 h⟩
instance st_lme_6 {lm : LM} {ds : List D} {s0 s1 s2 s3 s4 s5 : SL} {a : List D} {l : Ss} : Step (LmNx lm 6 ds (s0 :: s1 :: s2 :: s3 :: s4 :: s5 :: .own (.lst a) :: l) μ Q) (lm ds a μ fun d l2 => Q d (s0 :: s1 :: s2 :: s3 :: s4 :: s5 :: .own (.lst l2) :: l) μ) := ⟨fun h => lme_6 h⟩
instance st_eo_6 {neg : Bool} {db : DE} {s0 s1 s2 s3 s4 s5 : SL} {a : List D} {l : Ss} : Step (dEqO neg 6 db (s0 :: s1 :: s2 :: s3 :: s4 :: s5 :: .own (.lst a) :: l) μ Q) (db (s0 :: s1 :: s2 :: s3 :: s4 :: s5 :: .own (.lst a) :: l) μ fun y δ1 μ1 => EqNx neg 6 y δ1 μ1 Q) := ⟨fun h => eo_6 h⟩
instance st_eoe_6 {neg : Bool} {y : D} {s0 s1 s2 s3 s4 s5 : SL} {a : List D} {l : Ss} : Step (EqNx neg 6 y (s0 :: s1 :: s2 :: s3 :: s4 :: s5 :: .own (.lst a) :: l) μ Q) (EqV neg (.lst a) y μ fun d => Q d (s0 :: s1 :: s2 :: s3 :: s4 :: s5 :: .own (.lst a) :: l) μ) := ⟨fun h => eoe_6 h⟩
instance st_lm_7 {lm : LM} {da : DA} {s0 s1 s2 s3 s4 s5 s6 : SL} {a : List D} {l : Ss} : Step (dLMO 7 lm da (s0 :: s1 :: s2 :: s3 :: s4 :: s5 :: s6 :: .own (.lst a) :: l) μ Q) (da (s0 :: s1 :: s2 :: s3 :: s4 :: s5 :: s6 :: .own (.lst a) :: l) μ fun ds δ1 μ1 => LmNx lm 7 ds δ1 μ1 Q) := ⟨fun h => lm_7 h⟩
instance st_lme_7 {lm : LM} {ds : List D} {s0 s1 s2 s3 s4 s5 s6 : SL} {a : List D} {l : Ss} : Step (LmNx lm 7 ds (s0 :: s1 :: s2 :: s3 :: s4 :: s5 :: s6 :: .own (.lst a) :: l) μ Q) (lm ds a μ fun d l2 => Q d (s0 :: s1 :: s2 :: s3 :: s4 :: s5 :: s6 :: .own (.lst l2) :: l) μ) := ⟨fun h => lme_7 h⟩
instance st_eo_7 {neg : Bool} {db : DE} {s0 s1 s2 s3 s4 s5 s6 : SL} {a : List D} {l : Ss} : Step (dEqO neg 7 db (s0 :: s1 :: s2 :: s3 :: s4 :: s5 :: s6 :: .own (.lst a) :: l) μ Q) (db (s0 :: s1 :: s2 :: s3 :: s4 :: s5 :: s6 :: .own (.lst a) :: l) μ fun y δ1 μ1 => EqNx neg 7 y δ1 μ1 Q) := ⟨fun h => eo_7 h⟩
instance st_eoe_7 {neg : Bool} {y : D} {s0 s1 s2 s3 s4 s5 s6 : SL} {a : List D} {l : Ss} : Step (EqNx neg 7 y (s0 :: s1 :: s2 :: s3 :: s4 :: s5 :: s6 :: .own (.lst a) :: l) μ Q) (EqV neg (.lst a) y μ fun d => Q d (s0 :: s1 :: s2 :: s3 :: s4 :: s5 :: s6 :: .own (.lst a) :: l) μ) := ⟨fun h => eoe_7 h⟩
instance st_lm_8 {lm : LM} {da : DA} {s0 s1 s2 s3 s4 s5 s6 s7 : SL} {a : List D} {l : Ss} : Step (dLMO 8 lm da (s0 :: s1 :: s2 :: s3 :: s4 :: s5 :: s6 :: s7 :: .own (.lst a) :: l) μ Q) (da (s0 :: s1 :: s2 :: s3 :: s4 :: s5 :: s6 :: s7 :: .own (.lst a) :: l) μ fun ds δ1 μ1 => LmNx lm 8 ds δ1 μ1 Q) := ⟨fun h => lm_8 h⟩
instance st_lme_8 {lm : LM} {ds : List D} {s0 s1 s2 s3 s4 s5 s6 s7 : SL} {a : List D} {l : Ss} : Step (LmNx lm 8 ds (s0 :: s1 :: s2 :: s3 :: s4 :: s5 :: s6 :: s7 :: .own (.lst a) :: l) μ Q) (lm ds a μ fun d l2 => Q d (s0 :: s1 :: s2 :: s3 :: s4 :: s5 :: s6 :: s7 :: .own (.lst l2) :: l) μ) := ⟨fun h => lme_8 h⟩
instance st_eo_8 {neg : Bool} {db : DE} {s0 s1 s2 s3 s4 s5 s6 s7 : SL} {a : List D} {l : Ss} : Step (dEqO neg 8 db (s0 :: s1 :: s2 :: s3 :: s4 :: s5 :: s6 :: s7 :: .own (.lst a) :: l) μ Q) (db (s0 :: s1 :: s2 :: s3 :: s4 :: s5 :: s6 :: s7 :: .own (.lst a) :: l) μ fun y δ1 μ1 => EqNx neg 8 y δ1 μ1 Q) := ⟨fun h => eo_8 h⟩
instance st_eoe_8 {neg : Bool} {y : D} {s0 s1 s2 s3 s4 s5 s6 s7 : SL} {a : List D} {l : Ss} : Step (EqNx neg 8 y (s0 :: s1 :: s2 :: s3 :: s4 :: s5 :: s6 :: s7 :: .own (.lst a) :: l) μ Q) (EqV neg (.lst a) y μ fun d => Q d (s0 :: s1 :: s2 :: s3 :: s4 :: s5 :: s6 :: s7 :: .own (.lst a) :: l) μ) := ⟨fun h => eoe_8 h⟩
instance st_lm_9 {lm : LM} {da : DA} {s0 s1 s2 s3 s4 s5 s6 s7 s8 : SL} {a : List D} {l : Ss} : Step (dLMO 9 lm da (s0 :: s1 :: s2 :: s3 :: s4 :: s5 :: s6 :: s7 :: s8 :: .own (.lst a) :: l) μ Q) (da (s0 :: s1 :: s2 :: s3 :: s4 :: s5 :: s6 :: s7 :: s8 :: .own (.lst a) :: l) μ fun ds δ1 μ1 => LmNx lm 9 ds δ1 μ1 Q) := ⟨fun h => lm_9 h⟩
instance st_lme_9 {lm : LM} {ds : List D} {s0 s1 s2 s3 s4 s5 s6 s7 s8 : SL} {a : List D} {l : Ss} : Step (LmNx lm 9 ds (s0 :: s1 :: s2 :: s3 :: s4 :: s5 :: s6 :: s7 :: s8 :: .own (.lst a) :: l) μ Q) (lm ds a μ fun d l2 => Q d (s0 :: s1 :: s2 :: s3 :: s4 :: s5 :: s6 :: s7 :: s8 :: .own (.lst l2) :: l) μ) := ⟨fun h => lme_9 h⟩
instance st_eo_9 {neg : Bool} {db : DE} {s0 s1 s2 s3 s4 s5 s6 s7 s8 : SL} {a : List D} {l : Ss} : Step (dEqO neg 9 db (s0 :: s1 :: s2 :: s3 :: s4 :: s5 :: s6 :: s7 :: s8 :: .own (.lst a) :: l) μ Q) (db (s0 :: s1 :: s2 :: s3 :: s4 :: s5 :: s6 :: s7 :: s8 :: .own (.lst a) :: l) μ fun y δ1 μ1 => EqNx neg 9 y δ1 μ1 Q) := ⟨fun h => eo_9 h⟩
instance st_eoe_9 {neg : Bool} {y : D} {s0 s1 s2 s3 s4 s5 s6 s7 s8 : SL} {a : List D} {l : Ss} : Step (EqNx neg 9 y (s0 :: s1 :: s2 :: s3 :: s4 :: s5 :: s6 :: s7 :: s8 :: .own (.lst a) :: l) μ Q) (EqV neg (.lst a) y μ fun d => Q d (s0 :: s1 :: s2 :: s3 :: s4 :: s5 :: s6 :: s7 :: s8 :: .own (.lst a) :: l) μ) := ⟨fun h => eoe_9 h⟩
instance st_lm_10 {lm : LM} {da : DA} {s0 s1 s2 s3 s4 s5 s6 s7 s8 s9 : SL} {a : List D} {l : Ss} : Step (dLMO 10 lm da (s0 :: s1 :: s2 :: s3 :: s4 :: s5 :: s6 :: s7 :: s8 :: s9 :: .own (.lst a) :: l) μ Q) (da (s0 :: s1 :: s2 :: s3 :: s4 :: s5 :: s6 :: s7 :: s8 :: s9 :: .own (.lst a) :: l) μ fun ds δ1 μ1 => LmNx lm 10 ds δ1 μ1 Q) := ⟨fun h => lm_10 h⟩
instance st_lme_10 {lm : LM} {ds : List D} {s0 s1 s2 s3 s4 s5 s6 s7 s8 s9 : SL} {a : List D} {l : Ss} : Step (LmNx lm 10 ds (s0 :: s1 :: s2 :: s3 :: s4 :: s5 :: s6 :: s7 :: s8 :: s9 :: .own (.lst a) :: l) μ Q) (lm ds a μ fun d l2 => Q d (s0 :: s1 :: s2 :: s3 :: s4 :: s5 :: s6 :: s7 :: s8 :: s9 :: .own (.lst l2) :: l) μ) := ⟨fun h => lme_10 h⟩
instance st_eo_10 {neg : Bool} {db : DE} {s0 s1 s2 s3 s4 s5 s6 s7 s8 s9 : SL} {a : List D} {l : Ss} : Step (dEqO neg 10 db (s0 :: s1 :: s2 :: s3 :: s4 :: s5 :: s6 :: s7 :: s8 :: s9 :: .own (.lst a) :: l) μ Q) (db (s0 :: s1 :: s2 :: s3 :: s4 :: s5 :: s6 :: s7 :: s8 :: s9 :: .own (.lst a) :: l) μ fun y δ1 μ1 => EqNx neg 10 y δ1 μ1 Q) := ⟨fun h => eo_10 h⟩
instance st_eoe_10 {neg : Bool} {y : D} {s0 s1 s2 s3 s4 s5 s6 s7 s8 s9 : SL} {a : List D} {l : Ss} : Step (EqNx neg 10 y (s0 :: s1 :: s2 :: s3 :: s4 :: s5 :: s6 :: s7 :: s8 :: s9 :: .own (.lst a) :: l) μ Q) (EqV neg (.lst a) y μ fun d => Q d (s0 :: s1 :: s2 :: s3 :: s4 :: s5 :: s6 :: s7 :: s8 :: s9 :: .own (.lst a) :: l) μ) := ⟨fun h => eoe_10 h⟩
instance st_lm_11 {lm : LM} {da : DA} {s0 s1 s2 s3 s4 s5 s6 s7 s8 s9 s10 : SL} {a : List D} {l : Ss} : Step (dLMO 11 lm da (s0 :: s1 :: s2 :: s3 :: s4 :: s5 :: s6 :: s7 :: s8 :: s9 :: s10 :: .own (.lst a) :: l) μ Q) (da (s0 :: s1 :: s2 :: s3 :: s4 :: s5 :: s6 :: s7 :: s8 :: s9 :: s10 :: .own (.lst a) :: l) μ fun ds δ1 μ1 => LmNx lm 11 ds δ1 μ1 Q) := ⟨fun h => lm_11 h⟩
instance st_lme_11 {lm : LM} {ds : List D} {s0 s1 s2 s3 s4 s5 s6 s7 s8 s9 s10 : SL} {a : List D} {l : Ss} : Step (LmNx lm 11 ds (s0 :: s1 :: s2 :: s3 :: s4 :: s5 :: s6 :: s7 :: s8 :: s9 :: s10 :: .own (.lst a) :: l) μ Q) (lm ds a μ fun d l2 => Q d (s0 :: s1 :: s2 :: s3 :: s4 :: s5 :: s6 :: s7 :: s8 :: s9 :: s10 :: .own (.lst l2) :: l) μ) := ⟨fun h => lme_11 h⟩
instance st_eo_11 {neg : Bool} {db : DE} {s0 s1 s2 s3 s4 s5 s6 s7 s8 s9 s10 : SL} {a : List D} {l : Ss} : Step (dEqO neg 11 db (s0 :: s1 :: s2 :: s3 :: s4 :: s5 :: s6 :: s7 :: s8 :: s9 :: s10 :: .own (.lst a) :: l) μ Q) (db (s0 :: s1 :: s2 :: s3 :: s4 :: s5 :: s6 :: s7 :: s8 :: s9 :: s10 :: .own (.lst a) :: l) μ fun y δ1 μ1 => EqNx neg 11 y δ1 μ1 Q) := ⟨fun h => eo_11 h⟩
instance st_eoe_11 {neg : Bool} {y : D} {s0 s1 s2 s3 s4 s5 s6 s7 s8 s9 s10 : SL} {a : List D} {l : Ss} : Step (EqNx neg 11 y (s0 :: s1 :: s2 :: s3 :: s4 :: s5 :: s6 :: s7 :: s8 :: s9 :: s10 :: .own (.lst a) :: l) μ Q) (EqV neg (.lst a) y μ fun d => Q d (s0 :: s1 :: s2 :: s3 :: s4 :: s5 :: s6 :: s7 :: s8 :: s9 :: s10 :: .own (.lst a) :: l) μ) := ⟨fun h => eoe_11 h⟩
instance st_ixl_0 {d : D} {r : List D} : Step (rdIx (.lst (d :: r)) (.int 0) μ QM') (QM' d μ) := ⟨fun h => ixl_0 h⟩
instance st_ixt_0 {d : D} {r : List D} : Step (rdIx (.tup (d :: r)) (.int 0) μ QM') (QM' d μ) := ⟨fun h => ixt_0 h⟩
instance st_ixl_1 {b0 : D} {d : D} {r : List D} : Step (rdIx (.lst (b0 :: d :: r)) (.int 1) μ QM') (QM' d μ) := ⟨fun h => ixl_1 h⟩
instance st_ixt_1 {b0 : D} {d : D} {r : List D} : Step (rdIx (.tup (b0 :: d :: r)) (.int 1) μ QM') (QM' d μ) := ⟨fun h => ixt_1 h⟩
instance st_ixl_2 {b0 b1 : D} {d : D} {r : List D} : Step (rdIx (.lst (b0 :: b1 :: d :: r)) (.int 2) μ QM') (QM' d μ) := ⟨fun h => ixl_2 h⟩
instance st_ixt_2 {b0 b1 : D} {d : D} {r : List D} : Step (rdIx (.tup (b0 :: b1 :: d :: r)) (.int 2) μ QM') (QM' d μ) := ⟨fun h => ixt_2 h⟩
instance st_ixl_3 {b0 b1 b2 : D} {d : D} {r : List D} : Step (rdIx (.lst (b0 :: b1 :: b2 :: d :: r)) (.int 3) μ QM') (QM' d μ) := ⟨fun h => ixl_3 h⟩
instance st_ixt_3 {b0 b1 b2 : D} {d : D} {r : List D} : Step (rdIx (.tup (b0 :: b1 :: b2 :: d :: r)) (.int 3) μ QM') (QM' d μ) := ⟨fun h => ixt_3 h⟩
instance st_ixl_4 {b0 b1 b2 b3 : D} {d : D} {r : List D} : Step (rdIx (.lst (b0 :: b1 :: b2 :: b3 :: d :: r)) (.int 4) μ QM') (QM' d μ) := ⟨fun h => ixl_4 h⟩
instance st_ixt_4 {b0 b1 b2 b3 : D} {d : D} {r : List D} : Step (rdIx (.tup (b0 :: b1 :: b2 :: b3 :: d :: r)) (.int 4) μ QM') (QM' d μ) := ⟨fun h => ixt_4 h⟩
instance st_ixl_5 {b0 b1 b2 b3 b4 : D} {d : D} {r : List D} : Step (rdIx (.lst (b0 :: b1 :: b2 :: b3 :: b4 :: d :: r)) (.int 5) μ QM') (QM' d μ) := ⟨fun h => ixl_5 h⟩
instance st_ixt_5 {b0 b1 b2 b3 b4 : D} {d : D} {r : List D} : Step (rdIx (.tup (b0 :: b1 :: b2 :: b3 :: b4 :: d :: r)) (.int 5) μ QM') (QM' d μ) := ⟨fun h => ixt_5 h⟩
instance st_ixl_6 {b0 b1 b2 b3 b4 b5 : D} {d : D} {r : List D} : Step (rdIx (.lst (b0 :: b1 :: b2 :: b3 :: b4 :: b5 :: d :: r)) (.int 6) μ QM') (QM' d μ) := ⟨fun h => ixl_6 h⟩
instance st_ixt_6 {b0 b1 b2 b3 b4 b5 : D} {d : D} {r : List D} : Step (rdIx (.tup (b0 :: b1 :: b2 :: b3 :: b4 :: b5 :: d :: r)) (.int 6) μ QM') (QM' d μ) := ⟨fun h => ixt_6 h⟩
instance st_ixl_7 {b0 b1 b2 b3 b4 b5 b6 : D} {d : D} {r : List D} : Step (rdIx (.lst (b0 :: b1 :: b2 :: b3 :: b4 :: b5 :: b6 :: d :: r)) (.int 7) μ QM') (QM' d μ) := ⟨fun h => ixl_7 h⟩
instance st_ixt_7 {b0 b1 b2 b3 b4 b5 b6 : D} {d : D} {r : List D} : Step (rdIx (.tup (b0 :: b1 :: b2 :: b3 :: b4 :: b5 :: b6 :: d :: r)) (.int 7) μ QM') (QM' d μ) := ⟨fun h => ixt_7 h⟩
instance st_ixl_8 {b0 b1 b2 b3 b4 b5 b6 b7 : D} {d : D} {r : List D} : Step (rdIx (.lst (b0 :: b1 :: b2 :: b3 :: b4 :: b5 :: b6 :: b7 :: d :: r)) (.int 8) μ QM') (QM' d μ) := ⟨fun h => ixl_8 h⟩
instance st_ixt_8 {b0 b1 b2 b3 b4 b5 b6 b7 : D} {d : D} {r : List D} : Step (rdIx (.tup (b0 :: b1 :: b2 :: b3 :: b4 :: b5 :: b6 :: b7 :: d :: r)) (.int 8) μ QM') (QM' d μ) := ⟨fun h => ixt_8 h⟩
instance st_ixl_9 {b0 b1 b2 b3 b4 b5 b6 b7 b8 : D} {d : D} {r : List D} : Step (rdIx (.lst (b0 :: b1 :: b2 :: b3 :: b4 :: b5 :: b6 :: b7 :: b8 :: d :: r)) (.int 9) μ QM') (QM' d μ) := ⟨fun h => ixl_9 h⟩
instance st_ixt_9 {b0 b1 b2 b3 b4 b5 b6 b7 b8 : D} {d : D} {r : List D} : Step (rdIx (.tup (b0 :: b1 :: b2 :: b3 :: b4 :: b5 :: b6 :: b7 :: b8 :: d :: r)) (.int 9) μ QM') (QM' d μ) := ⟨fun h => ixt_9 h⟩
instance st_slt_1 {b0 : D} {r : List D} : Step (rdSl (.tup (b0 :: r)) none (some 1) μ QM') (QM' (.tup [b0]) μ) := ⟨fun h => slt_1 h⟩
instance st_slt_2 {b0 b1 : D} {r : List D} : Step (rdSl (.tup (b0 :: b1 :: r)) none (some 2) μ QM') (QM' (.tup [b0, b1]) μ) := ⟨fun h => slt_2 h⟩
instance st_slt_3 {b0 b1 b2 : D} {r : List D} : Step (rdSl (.tup (b0 :: b1 :: b2 :: r)) none (some 3) μ QM') (QM' (.tup [b0, b1, b2]) μ) := ⟨fun h => slt_3 h⟩
instance st_slt_4 {b0 b1 b2 b3 : D} {r : List D} : Step (rdSl (.tup (b0 :: b1 :: b2 :: b3 :: r)) none (some 4) μ QM') (QM' (.tup [b0, b1, b2, b3]) μ) := ⟨fun h => slt_4 h⟩
instance st_slt_5 {b0 b1 b2 b3 b4 : D} {r : List D} : Step (rdSl (.tup (b0 :: b1 :: b2 :: b3 :: b4 :: r)) none (some 5) μ QM') (QM' (.tup [b0, b1, b2, b3, b4]) μ) := ⟨fun h => slt_5 h⟩
instance st_pw_10_2 : Step (rdPow (.int 10) (.int 2) μ QM') (QM' (.int 100) μ) := ⟨fun h => pw_10_2 h⟩
instance st_pw_10_3 : Step (rdPow (.int 10) (.int 3) μ QM') (QM' (.int 1000) μ) := ⟨fun h => pw_10_3 h⟩
instance st_pw_10_4 : Step (rdPow (.int 10) (.int 4) μ QM') (QM' (.int 10000) μ) := ⟨fun h => pw_10_4 h⟩
instance st_pw_10_5 : Step (rdPow (.int 10) (.int 5) μ QM') (QM' (.int 100000) μ) := ⟨fun h => pw_10_5 h⟩
instance st_pw_10_6 : Step (rdPow (.int 10) (.int 6) μ QM') (QM' (.int 1000000) μ) := ⟨fun h => pw_10_6 h⟩
instance st_pw_10_7 : Step (rdPow (.int 10) (.int 7) μ QM') (QM' (.int 10000000) μ) := ⟨fun h => pw_10_7 h⟩
instance st_pw_10_8 : Step (rdPow (.int 10) (.int 8) μ QM') (QM' (.int 100000000) μ) := ⟨fun h => pw_10_8 h⟩
instance st_pw_10_9 : Step (rdPow (.int 10) (.int 9) μ QM') (QM' (.int 1000000000) μ) := ⟨fun h => pw_10_9 h⟩
instance st_pw_10_10 : Step (rdPow (.int 10) (.int 10) μ QM') (QM' (.int 10000000000) μ) := ⟨fun h => pw_10_10 h⟩
instance st_pw_10_11 : Step (rdPow (.int 10) (.int 11) μ QM') (QM' (.int 100000000000) μ) := ⟨fun h => pw_10_11 h⟩
instance st_pw_10_12 : Step (rdPow (.int 10) (.int 12) μ QM') (QM' (.int 1000000000000) μ) := ⟨fun h => pw_10_12 h⟩
instance st_pw_10_13 : Step (rdPow (.int 10) (.int 13) μ QM') (QM' (.int 10000000000000) μ) := ⟨fun h => pw_10_13 h⟩
instance st_pw_10_14 : Step (rdPow (.int 10) (.int 14) μ QM') (QM' (.int 100000000000000) μ) := ⟨fun h => pw_10_14 h⟩
instance st_pw_10_15 : Step (rdPow (.int 10) (.int 15) μ QM') (QM' (.int 1000000000000000) μ) := ⟨fun h => pw_10_15 h⟩
instance st_pw_10_16 : Step (rdPow (.int 10) (.int 16) μ QM') (QM' (.int 10000000000000000) μ) := ⟨fun h => pw_10_16 h⟩
instance st_pw_10_17 : Step (rdPow (.int 10) (.int 17) μ QM') (QM' (.int 100000000000000000) μ) := ⟨fun h => pw_10_17 h⟩
instance st_pw_10_18 : Step (rdPow (.int 10) (.int 18) μ QM') (QM' (.int 1000000000000000000) μ) := ⟨fun h => pw_10_18 h⟩
instance st_pw_10_19 : Step (rdPow (.int 10) (.int 19) μ QM') (QM' (.int 10000000000000000000) μ) := ⟨fun h => pw_10_19 h⟩
instance st_pw_10_20 : Step (rdPow (.int 10) (.int 20) μ QM') (QM' (.int 100000000000000000000) μ) := ⟨fun h => pw_10_20 h⟩
instance st_pw_10_21 : Step (rdPow (.int 10) (.int 21) μ QM') (QM' (.int 1000000000000000000000) μ) := ⟨fun h => pw_10_21 h⟩
instance st_pw_10_22 : Step (rdPow (.int 10) (.int 22) μ QM') (QM' (.int 10000000000000000000000) μ) := ⟨fun h => pw_10_22 h⟩
instance st_pw_10_24 : Step (rdPow (.int 10) (.int 24) μ QM') (QM' (.int 1000000000000000000000000) μ) := ⟨fun h => pw_10_24 h⟩
instance st_pw_10_25 : Step (rdPow (.int 10) (.int 25) μ QM') (QM' (.int 10000000000000000000000000) μ) := ⟨fun h => pw_10_25 h⟩
instance st_pw_10_27 : Step (rdPow (.int 10) (.int 27) μ QM') (QM' (.int 1000000000000000000000000000) μ) := ⟨fun h => pw_10_27 h⟩
instance st_pw_10_30 : Step (rdPow (.int 10) (.int 30) μ QM') (QM' (.int 1000000000000000000000000000000) μ) := ⟨fun h => pw_10_30 h⟩
end Dl
namespace Dl
open PySem PySem.Spec PyProof.Rows L2
variable {K : PySem.W.Frag} {μ : Mem} {δ : Ss} {Q : QE} {QM' : QM} {nx bk ct : Ss → Mem → Prop} {rt : QM}
theorem take_snoc {α : Type} {l : List α} {i : Nat} {x : α} (h : l[i]? = some x) : l.take (i + 1) = l.take i ++ [x] := by
  rw [List.take_add_one, h]; rfl
theorem split_at {α : Type} {l : List α} {i : Nat} {x : α} (h : l[i]? = some x) : l = l.take i ++ x :: l.drop (i + 1) := by
  obtain ⟨hi, e⟩ := List.getElem?_eq_some_iff.mp h
  rw [← e, List.getElem_cons_drop, List.take_append_drop]
theorem map_at {α β : Type} {f : α → β} {l : List α} {i : Nat} {d : β} (h : (l.map f)[i]? = some d) : ∃ x, l[i]? = some x ∧ d = f x := by
  rw [List.getElem?_map] at h
  cases e : l[i]? with
  | none => rw [e] at h; cases h
  | some x => rw [e] at h; exact ⟨x, rfl, (Option.some.inj h).symm⟩
/-! ### more steps -/
instance st_drw1 {da : DE} : Step (dDrw1 da δ μ Q) (da δ μ fun x δ1 μ1 => ∃ ns, x = .drw ns ∧ ∀ n : Int, 0 ≤ n → Q (.int n) δ1 μ1) := ⟨id⟩
instance st_drw0 {da : DE} : Step (dDrw0 da δ μ Q) (da δ μ fun x δ1 μ1 => ∃ ns, x = .drw ns ∧ (ns.length ≤ 63 → Q (.scr (ns.map .int)) δ1 μ1)) := ⟨id⟩
instance st_exdrw {ns : List Int} {P : List Int → Prop} : Step (∃ k, D.drw ns = .drw k ∧ P k) (P ns) := ⟨fun h => ⟨ns, rfl, h⟩⟩
def SetD (x d : D) (R : Prop) : Prop := ∃ ns m, x = .drw ns ∧ d = .int m ∧ 0 ≤ m ∧ R
instance st_setDrw {da de : DE} : Step (dSetDrw da de ⟨nx, rt, bk, ct⟩ δ μ) (de δ μ fun d δ1 μ1 => da δ1 μ1 fun x δ2 μ2 => SetD x d (nx δ2 μ2)) := ⟨id⟩
instance st_setD {ns : List Int} {m : Int} {R : Prop} : Step (SetD (.drw ns) (.int m) R) (0 ≤ m ∧ R) := ⟨fun h => ⟨ns, m, rfl, rfl, h⟩⟩
def NewD (xs : List D) (R : List Int → Prop) : Prop := ∃ x ns, xs = [x, .int 0] ∧ (x = .scr (ns.map .int) ∨ x = .lst (ns.map .int)) ∧ ns.length ≤ 63 ∧ R ns
instance st_drwNew {da : DA} : Step (dDrwNew da δ μ Q) (da δ μ fun xs δ1 μ1 => NewD xs fun ns => Q (.drw ns) δ1 μ1) := ⟨id⟩
instance st_newDs {ns : List Int} {R : List Int → Prop} : Step (NewD [.scr (ns.map .int), .int 0] R) (ns.length ≤ 63 ∧ R ns) := ⟨fun h => ⟨_, ns, rfl, .inl rfl, h⟩⟩
instance st_newDl {ns : List Int} {R : List Int → Prop} : Step (NewD [.lst (ns.map .int), .int 0] R) (ns.length ≤ 63 ∧ R ns) := ⟨fun h => ⟨_, ns, rfl, .inr rfl, h⟩⟩
instance st_fList {de : DE} {R : MO → Ss → Mem → Prop} : Step (fList de δ μ R) (de δ μ fun x δ1 μ1 => ∃ l, seqOf μ1 x = some l ∧ R (.lst l) δ1 μ1) := ⟨id⟩
instance st_parFF {i j : Nat} {df dg : DF} : Step (dParFF i j df dg ⟨nx, rt, bk, ct⟩ δ μ) (df δ μ fun m δ1 μ1 => dg δ1 μ1 fun n δ2 μ2 => nxSet (nxSet nx j (.own n)) i (.own m) δ2 μ2) := ⟨id⟩
instance st_listM {x : D} {R : QM} : Step (rdListM [x] μ R) (∃ l, seqOf μ x = some l ∧ ∀ p, μ p = none → R (.ref p) (updM μ p (.lst l))) := ⟨fun ⟨l, h⟩ => ⟨x, l, rfl, h⟩⟩
instance st_mulS {z : Str} {n : Int} {R : QM} : Step (rdMulS (.str z) (.int n) μ R) (0 ≤ n ∧ n ≤ 1000 ∧ z.length ≤ 1000 ∧ R (.str (Txt.mul z n)) μ) := ⟨fun h => ⟨z, n, rfl, rfl, h⟩⟩
instance st_isV {EX : List Str} {de : DE} : Step (dIsV EX de δ μ Q) (de δ μ fun x δ1 μ1 => ∃ c, excOf x = some c ∧ EX.contains c = true ∧ Q (.bl true) δ1 μ1) := ⟨id⟩
instance (priority := high) st_notN_exc {c : Str} {fs : List (Str × D)} {b : Bool} : Step (rdNotN (.exc c fs b) .non μ QM') (QM' (.bl true) μ) := ⟨fun h => ⟨rfl, h⟩⟩
instance (priority := high) st_isN_exc {c : Str} {fs : List (Str × D)} {b : Bool} : Step (rdIsN (.exc c fs b) .non μ QM') (QM' (.bl false) μ) := ⟨fun h => ⟨rfl, h⟩⟩
instance (priority := high) st_notN_int {i : Int} : Step (rdNotN (.int i) .non μ QM') (QM' (.bl true) μ) := ⟨fun h => ⟨rfl, h⟩⟩
instance (priority := high) st_isN_int {i : Int} : Step (rdIsN (.int i) .non μ QM') (QM' (.bl false) μ) := ⟨fun h => ⟨rfl, h⟩⟩
instance (priority := high) st_notN_str {i : Str} : Step (rdNotN (.str i) .non μ QM') (QM' (.bl true) μ) := ⟨fun h => ⟨rfl, h⟩⟩
instance (priority := high) st_isN_str {i : Str} : Step (rdIsN (.str i) .non μ QM') (QM' (.bl false) μ) := ⟨fun h => ⟨rfl, h⟩⟩
instance (priority := high) st_notN_bl {i : Bool} : Step (rdNotN (.bl i) .non μ QM') (QM' (.bl true) μ) := ⟨fun h => ⟨rfl, h⟩⟩
instance (priority := high) st_isN_bl {i : Bool} : Step (rdIsN (.bl i) .non μ QM') (QM' (.bl false) μ) := ⟨fun h => ⟨rfl, h⟩⟩
instance (priority := high) st_notN_tup {l : List D} : Step (rdNotN (.tup l) .non μ QM') (QM' (.bl true) μ) := ⟨fun h => ⟨rfl, h⟩⟩
instance (priority := high) st_isN_tup {l : List D} : Step (rdIsN (.tup l) .non μ QM') (QM' (.bl false) μ) := ⟨fun h => ⟨rfl, h⟩⟩
instance (priority := high) st_notN_lst {l : List D} : Step (rdNotN (.lst l) .non μ QM') (QM' (.bl true) μ) := ⟨fun h => ⟨rfl, h⟩⟩
instance (priority := high) st_isN_lst {l : List D} : Step (rdIsN (.lst l) .non μ QM') (QM' (.bl false) μ) := ⟨fun h => ⟨rfl, h⟩⟩
instance (priority := high) st_notN_ref {p : Addr} : Step (rdNotN (.ref p) .non μ QM') (QM' (.bl true) μ) := ⟨fun h => ⟨rfl, h⟩⟩
instance (priority := high) st_isN_ref {p : Addr} : Step (rdIsN (.ref p) .non μ QM') (QM' (.bl false) μ) := ⟨fun h => ⟨rfl, h⟩⟩
instance (priority := high) st_notN_obj {c : Str} {fs : List (Str × D)} : Step (rdNotN (.obj c fs) .non μ QM') (QM' (.bl true) μ) := ⟨fun h => ⟨rfl, h⟩⟩
instance (priority := high) st_isN_obj {c : Str} {fs : List (Str × D)} : Step (rdIsN (.obj c fs) .non μ QM') (QM' (.bl false) μ) := ⟨fun h => ⟨rfl, h⟩⟩
instance (priority := high) st_notN_non : Step (rdNotN .non .non μ QM') (QM' (.bl false) μ) := ⟨fun h => ⟨rfl, h⟩⟩
instance (priority := high) st_isN_non : Step (rdIsN .non .non μ QM') (QM' (.bl true) μ) := ⟨fun h => ⟨rfl, h⟩⟩
instance st_divmod {i j : Int} : Step (rdDivMod [.int i, .int j] μ QM') ((0 < j ∧ j < 1073741824) ∧ QM' (.tup [.int (i / j), .int (i % j)]) μ) := ⟨fun h => ⟨i, j, rfl, h.1, h.2⟩⟩
theorem i_sum {d : D} {ns : List Int} (hl : seqOf μ d = some (ns.map .int)) (h : QM' (.int ns.sum) μ) : rdSum [d] μ QM' := ⟨d, ns, rfl, hl, h⟩
instance st_sum {ns : List Int} : Step (rdSum [.lst (ns.map .int)] μ QM') (QM' (.int ns.sum) μ) := ⟨fun h => i_sum rfl h⟩
def RevD (x : D) (o : Option Int) (μ : Mem) (R : D → Prop) : Prop := (∃ l, x = .tup l ∧ R (.tup (l.take (revIx l.length o)).reverse)) ∨ (∃ l, o = none ∧ (∀ m, x ≠ .tup m) ∧ seqOf μ x = some l ∧ R (.lst l.reverse))
instance st_rev {de : DE} {dl : DO} : Step (dRev de dl δ μ Q) (de δ μ fun x δ1 μ1 => dl δ1 μ1 fun o δ2 μ2 => RevD x o μ2 fun d => Q d δ2 μ2) := ⟨id⟩
instance (priority := low) st_revT {l : List D} {R : D → Prop} : Step (RevD (.tup l) none μ R) (R (.tup l.reverse)) := ⟨fun h => .inl ⟨l, rfl, by show R (.tup (l.take l.length).reverse); rw [List.take_length]; exact h⟩⟩
instance st_revT2 {a b : D} {R : D → Prop} : Step (RevD (.tup [a, b]) none μ R) (R (.tup [b, a])) := ⟨fun h => .inl ⟨_, rfl, h⟩⟩
instance (priority := low) st_revTo {l : List D} {i : Int} {R : D → Prop} : Step (RevD (.tup l) (some i) μ R) (R (.tup (l.take (revIx l.length (some i))).reverse)) := ⟨fun h => .inl ⟨l, rfl, h⟩⟩
instance st_revL {l : List D} {R : D → Prop} : Step (RevD (.lst l) none μ R) (R (.lst l.reverse)) := ⟨fun h => .inr ⟨l, rfl, (fun _ z => nomatch z), rfl, h⟩⟩
def EnumW (ds : List D) (μ : Mem) (R : List D → (Mem → Prop) → Prop) : Prop := ∃ d, ds = [d] ∧ WkL d μ fun l G => R (enumD l) G
instance st_enum {da : DA} {R : List D → (Mem → Prop) → Ss → Mem → Prop} : Step (diEnum da δ μ R) (da δ μ fun ds δ1 μ1 => EnumW ds μ1 fun l G => R l G δ1 μ1) := ⟨id⟩
instance st_enumW {d : D} {R : List D → (Mem → Prop) → Prop} : Step (EnumW [d] μ R) (WkL d μ fun l G => R (enumD l) G) := ⟨fun h => ⟨d, rfl, h⟩⟩
def ZipW (ds : List D) (μ : Mem) (R : List D → (Mem → Prop) → Prop) : Prop := ∃ d e, ds = [d, e] ∧ ((WkL d μ fun l G => WkL e μ fun m G' => R (zipD l m) (fun μ => G μ ∧ G' μ)) ∨ (∃ l m, d = .tup l ∧ e = .tup m ∧ R (zipD l m) (fun _ => True)))
instance st_zip {da : DA} {R : List D → (Mem → Prop) → Ss → Mem → Prop} : Step (diZip da δ μ R) (da δ μ fun ds δ1 μ1 => ZipW ds μ1 fun l G => R l G δ1 μ1) := ⟨id⟩
theorem tt_and : (fun _ : Mem => True ∧ True) = fun _ : Mem => True := by simp
instance st_zipT {l m : List D} {R : List D → (Mem → Prop) → Prop} : Step (ZipW [.tup l, .tup m] μ R) (R (zipD l m) (fun _ => True)) := ⟨fun h => ⟨_, _, rfl, .inr ⟨l, m, rfl, rfl, h⟩⟩⟩
instance st_zipL {l m : List D} {R : List D → (Mem → Prop) → Prop} : Step (ZipW [.lst l, .lst m] μ R) (R (zipD l m) (fun _ => True)) := ⟨fun h => ⟨_, _, rfl, .inl (.inl ⟨l, .inl rfl, .inl ⟨m, .inl rfl, by show R (zipD l m) (fun _ => True ∧ True); rw [tt_and]; exact h⟩⟩)⟩⟩
instance st_seqA {de : DE} {R : List D → (Mem → Prop) → Ss → Mem → Prop} : Step (diSeqA de δ μ R) (de δ μ fun d δ1 μ1 => WkA d μ1 fun l G => R l G δ1 μ1) := ⟨id⟩
instance st_wkaL {a : List D} {R : List D → (Mem → Prop) → Prop} : Step (WkA (.lst a) μ R) (R a (fun _ => True)) := ⟨fun h => .inl (.inl ⟨a, .inl rfl, h⟩)⟩
instance st_wkaS {a : List D} {R : List D → (Mem → Prop) → Prop} : Step (WkA (.scr a) μ R) (R a (fun _ => True)) := ⟨fun h => .inl (.inl ⟨a, .inr rfl, h⟩)⟩
instance st_wkaT {a : List D} {R : List D → (Mem → Prop) → Prop} : Step (WkA (.tup a) μ R) (R a (fun _ => True)) := ⟨fun h => .inr ⟨a, rfl, h⟩⟩
def EnumA (ds : List D) (μ : Mem) (R : List D → (Mem → Prop) → Prop) : Prop := ∃ d, ds = [d] ∧ WkA d μ fun l G => R (enumD l) G
instance st_enumA {da : DA} {R : List D → (Mem → Prop) → Ss → Mem → Prop} : Step (diEnumA da δ μ R) (da δ μ fun ds δ1 μ1 => EnumA ds μ1 fun l G => R l G δ1 μ1) := ⟨id⟩
instance st_enumAW {d : D} {R : List D → (Mem → Prop) → Prop} : Step (EnumA [d] μ R) (WkA d μ fun l G => R (enumD l) G) := ⟨fun h => ⟨d, rfl, h⟩⟩
instance st_getD {da db dx : DE} : Step (dGetD da db dx δ μ Q) (da δ μ fun x δ1 μ1 => (∃ l, dicOf μ1 x = some l) ∧ db δ1 μ1 fun y δ2 μ2 => dx δ2 μ2 fun z δ3 μ3 => ∃ l k, dicOf μ3 x = some l ∧ keyD y = some k ∧ Q ((valD l k).getD z) δ3 μ3) := ⟨id⟩
instance st_dic1 {kc : Key} {dv : DE} : Step (dDic1 kc dv δ μ Q) (∀ p, μ p = none → dv δ (updM μ p (.dct [])) fun d δ1 μ1 => μ1 p = some (.dct []) ∧ Q (.ref p) δ1 (updM μ1 p (.dct [(kc, d)]))) := ⟨id⟩
instance st_items {de : DE} : Step (dItems de δ μ Q) (de δ μ fun x δ1 μ1 => ∃ p l, x = .ref p ∧ μ1 p = some (.dct l) ∧ Q (.lst (l.map itemD)) δ1 μ1) := ⟨id⟩
instance st_lock {ds : DS} {DD : DEnds} : Step (dLock ds DD δ μ) (∃ p l, μ p = some (.dct l) ∧ ∀ od kvs, ds ⟨fun δ' μ' => μ' p = some (.lck od kvs l) ∧ DD.nx δ' (updM μ' p (.dct l)), fun v μ' => μ' p = some (.lck od kvs l) ∧ DD.rt v (updM μ' p (.dct l)), fun δ' μ' => μ' p = some (.lck od kvs l) ∧ DD.bk δ' (updM μ' p (.dct l)), fun δ' μ' => μ' p = some (.lck od kvs l) ∧ DD.ct δ' (updM μ' p (.dct l))⟩ δ (updM μ p (.lck od kvs l))) := ⟨id⟩
instance st_diItems {de : DE} {R : List D → (Mem → Prop) → Ss → Mem → Prop} : Step (diItems de δ μ R) (de δ μ fun x δ1 μ1 => ∃ p od kvs l, x = .ref p ∧ μ1 p = some (.lck od kvs l) ∧ R (l.map itemD) (fun μ => μ p = some (.lck od kvs l)) δ1 μ1) := ⟨id⟩
instance st_diVals {de : DE} {R : List D → (Mem → Prop) → Ss → Mem → Prop} : Step (diVals de δ μ R) (de δ μ fun x δ1 μ1 => ∃ p od kvs l, x = .ref p ∧ μ1 p = some (.lck od kvs l) ∧ R (l.map (·.2)) (fun μ => μ p = some (.lck od kvs l)) δ1 μ1) := ⟨id⟩
instance st_diKeys {de : DE} {R : List D → (Mem → Prop) → Ss → Mem → Prop} : Step (diKeys de δ μ R) (de δ μ fun x δ1 μ1 => ∃ p od kvs l, x = .ref p ∧ μ1 p = some (.lck od kvs l) ∧ R (l.map fun q => kD q.1) (fun μ => μ p = some (.lck od kvs l)) δ1 μ1) := ⟨id⟩
def MinF (xs zs : List D) (μ : Mem) (R : D → Prop) : Prop := ∃ (d z : D) (ps : List (D × PyData)), xs = [d] ∧ zs = [z] ∧ lstOf μ d = some (ps.map (·.1)) ∧ (∀ c ∈ ps, pd c.1 = some c.2) ∧ PySem.W.AlikeAll (ps.map (·.2)) ∧ (∀ c ∈ ps, c.2.depth ≤ 40) ∧ (ps = [] → R z) ∧ ∀ p ps', ps = p :: ps' → ∀ c ∈ ps, c.2 = PySem.W.minD p.2 (ps'.map (·.2)) → R c.1
instance st_minF {da dk : DA} : Step (dMinF da dk δ μ Q) (da δ μ fun xs δ1 μ1 => dk δ1 μ1 fun zs δ2 μ2 => MinF xs zs μ2 fun d => Q d δ2 μ2) := ⟨id⟩
instance st_setd {do_ dk dx : DE} : Step (dSetd do_ dk dx δ μ Q) (do_ δ μ fun x δ1 μ1 => (∃ p l, x = .ref p ∧ μ1 p = some (.dct l)) ∧ dk δ1 μ1 fun y δ2 μ2 => dx δ2 μ2 fun z δ3 μ3 => ∃ p l k, x = .ref p ∧ μ3 p = some (.dct l) ∧ keyD y = some k ∧ l.length < sizeLine ∧ (∀ d, valD l k = some d → Q d δ3 μ3) ∧ (valD l k = none → Q z δ3 (updM μ3 p (.dct (putKD l k z))))) := ⟨id⟩
instance st_augK {do_ dk de : DE} {f : Int → Int → Int} {nx : Ss → Mem → Prop} {rt : QM} {bk ct : Ss → Mem → Prop} : Step (dAugK do_ dk de f ⟨nx, rt, bk, ct⟩ δ μ) (do_ δ μ fun x δ1 μ1 => dk δ1 μ1 fun y δ2 μ2 => ∃ l k n, dicOf μ2 x = some l ∧ keyD y = some k ∧ valD l k = some (.int n) ∧ de δ2 μ2 fun d δ3 μ3 => ∃ m p l', d = .int m ∧ x = .ref p ∧ μ3 p = some (.dct l') ∧ l'.length < sizeLine ∧ nx δ3 (updM μ3 p (.dct (putKD l' k (.int (f n m)))))) := ⟨id⟩
def IndexW (x y : D) (μ : Mem) (R : D → Prop) : Prop := ∃ l ps p j z, lstOf μ x = some l ∧ pds l = some ps ∧ pd y = some p ∧ SeqAt.shaped (.list ps) = true ∧ SeqAt.shaped p = true ∧ ps[j]? = some z ∧ PyData.eqv z p = true ∧ (∀ (m : Nat) (z' : PyData), m < j → ps[m]? = some z' → PyData.eqv z' p = false) ∧ R (.int (j : Nat))
instance st_index {do_ de : DE} : Step (dIndex do_ de δ μ Q) (do_ δ μ fun x δ1 μ1 => (∃ l, lstOf μ1 x = some l) ∧ de δ1 μ1 fun y δ2 μ2 => IndexW x y μ2 fun d => Q d δ2 μ2) := ⟨id⟩
instance st_orL {da db : DE} : Step (dOrL da db δ μ Q) (da δ μ fun x δ1 μ1 => ∃ l, seqOf μ1 x = some l ∧ if (!l.isEmpty) = true then Q x δ1 μ1 else db δ1 μ1 Q) := ⟨id⟩
instance st_repr {x : D} : Step (rdRepr [x] μ QM') (isSeqD x = true ∧ okR x ∧ QM' (.str (shownD x)) μ) := ⟨fun h => ⟨x, rfl, h⟩⟩
/-! a method called with names -/
def KwC (n l : Nat) (pk : List (Bool × Nat)) (dsp : DSp) (x : D) (ds es dds : List D) (μ : Mem) (Q : QM) (E : DX) : Prop := (x :: ds).length = n ∧ es.length = l ∧ dsp ((x :: ds) ++ pick .non pk es dds) μ Q E
instance st_methK {C m : Str} {n l : Nat} {pk : List (Bool × Nat)} {dsp : DSp} {dds : List D} {XD : DXW} {do_ : DE} {da dk : DA} : Step (dMethK C m n l pk dsp dds XD do_ da dk δ μ Q) (do_ δ μ fun x δ1 μ1 => OnM C m x μ1 (da δ1 μ1 fun ds δ2 μ2 => dk δ2 μ2 fun es δ3 μ3 => KwC n l pk dsp x ds es dds μ3 (fun d μ4 => Q d δ3 μ4) (fun c fs μ4 => XD c fs δ3 μ4))) := ⟨id⟩
theorem kw_c {n l : Nat} {pk : List (Bool × Nat)} {dsp : DSp} {x : D} {ds es dds fu : List D} {E : DX} (h1 : (x :: ds).length = n) (h2 : es.length = l) (e : (x :: ds) ++ pick .non pk es dds = fu) (h : dsp fu μ QM' E) : KwC n l pk dsp x ds es dds μ QM' E := ⟨h1, h2, by rw [e]; exact h⟩
theorem cut_by {t u : DS} (M : Ss → Mem → Prop) (h1 : t ⟨Wn M, rt, bk, ct⟩ δ μ) (h2 : ∀ δ μ, M δ μ → u ⟨nx, rt, bk, ct⟩ δ μ) : dCut t u ⟨nx, rt, bk, ct⟩ δ μ := ⟨M, h1, h2⟩
/-! a list is walked -/
instance st_any {de : DE} {R : List D → (Mem → Prop) → Ss → Mem → Prop} : Step (diAny de δ μ R) (de δ μ fun d δ1 μ1 => WkL d μ1 fun l G => R l G δ1 μ1) := ⟨id⟩
instance st_wkl {a : List D} {R : List D → (Mem → Prop) → Prop} : Step (WkL (.lst a) μ R) (R a (fun _ => True)) := ⟨fun h => .inl ⟨a, .inl rfl, h⟩⟩
instance st_wks {a : List D} {R : List D → (Mem → Prop) → Prop} : Step (WkL (.scr a) μ R) (R a (fun _ => True)) := ⟨fun h => .inl ⟨a, .inr rfl, h⟩⟩
theorem wk_r {p : Addr} {l : List D} {R : List D → (Mem → Prop) → Prop} (hp : μ p = some (.lst l)) (h : R l (fun μ => μ p = some (.lst l))) : WkL (.ref p) μ R := .inr ⟨p, l, rfl, hp, h⟩
/-- .. and is the same in all that comes -/
theorem wk_le {a : D} {l : List D} {R : List D → (Mem → Prop) → Prop} (h : lstOf μ a = some l) (q : ∀ G : Mem → Prop, (∀ μ', lstOf μ' a = some l → G μ') → R l G) : WkL a μ R := by
  cases a with
  | lst m => cases (show some m = some l from h); exact .inl ⟨_, .inl rfl, q _ fun _ _ => trivial⟩
  | scr m => cases (show some m = some l from h); exact .inl ⟨_, .inr rfl, q _ fun _ _ => trivial⟩
  | ref p =>
    unfold lstOf at h
    dsimp only at h
    split at h
    · cases h
      rename_i l' hm
      refine .inr ⟨p, _, rfl, hm, q _ fun μ' h' => ?_⟩
      unfold lstOf at h'
      dsimp only at h'
      split at h'
      · rename_i hm'
        cases h'
        exact hm'
      · cases h'
    · cases h
  | _ => cases (show none = some l from h)
/-! len of an own object -/
def OnL (C : Str) (x : D) (μ : Mem) (R : Prop) : Prop := ∃ fs, objOf μ x = some (C, fs) ∧ R
def LenV (d : D) (R : Int → Prop) : Prop := ∃ n : Int, d = .int n ∧ 0 ≤ n ∧ n < 2 ^ 63 ∧ R n
instance st_lenM {C : Str} {dsp : DSp} {XD : DXW} {da : DE} : Step (dLenM C dsp XD da δ μ Q) (da δ μ fun x δ1 μ1 => OnL C x μ1 (dsp [x] μ1 (fun d μ2 => LenV d fun n => Q (.int n) δ1 μ2) (fun c fs μ2 => XD c fs δ1 μ2))) := ⟨id⟩
instance st_lenV {n : Int} {R : Int → Prop} : Step (LenV (.int n) R) ((0 ≤ n ∧ n < 9223372036854775808) ∧ R n) := ⟨fun h => ⟨n, rfl, h.1.1, h.1.2, h.2⟩⟩
/-! while -/
def LtW (W : Nat → Ss → Mem → Prop) (m : Nat) (δ : Ss) (μ : Mem) : Prop := ∃ m', m' < m ∧ Wn (W m') δ μ
theorem wh_by {dc : DT} {db : DS} (W : Nat → Ss → Mem → Prop) (m : Nat) (h0 : Wn (W m) δ μ) (turn : ∀ m δ μ, W m δ μ → dc δ μ fun b δ1 μ1 => if b = true then db ⟨LtW W m, rt, nx, LtW W m⟩ δ1 μ1 else nx δ1 μ1) : dWhile dc db ⟨nx, rt, bk, ct⟩ δ μ := ⟨W, ⟨m, h0⟩, turn⟩
theorem lt_w {W : Nat → Ss → Mem → Prop} {m : Nat} (m' : Nat) (h : m' < m) (w : Wn (W m') δ μ) : LtW W m δ μ := ⟨m', h, w⟩
/-! methods that change a list -/
instance st_lmM {do_ : DE} {lm : LM} {da : DA} : Step (dLMM do_ lm da δ μ Q) (do_ δ μ fun x δ1 μ1 => (∃ p l, x = .ref p ∧ μ1 p = some (.lst l)) ∧ da δ1 μ1 fun ds δ2 μ2 => ∃ p l, x = .ref p ∧ μ2 p = some (.lst l) ∧ lm ds l μ2 fun d l' => Q d δ2 (updM μ2 p (.lst l'))) := ⟨id⟩
instance st_lmClear {l : List D} {R : D → List D → Prop} : Step (lmClear [] l μ R) (R .non []) := ⟨fun h => ⟨rfl, h⟩⟩
instance st_lmRev {l : List D} {R : D → List D → Prop} : Step (lmReverse [] l μ R) (R .non l.reverse) := ⟨fun h => ⟨rfl, h⟩⟩
/-! ### for, by what holds behind a part of the list -/
theorem for_pg {α : Type} {l : List α} {f : α → D} {G : Mem → Prop} {dg : DG} {db : DS} (I : List α → Ss → Mem → Prop) (hG : ∀ pre δ μ, I pre δ μ → G μ) (h0 : Wn (I []) δ μ) (turn : ∀ pre a post δ μ, l = pre ++ a :: post → I pre δ μ → dg (f a) δ μ fun δ2 μ2 => db ⟨Wn (I (pre ++ [a])), rt, nx, Wn (I (pre ++ [a]))⟩ δ2 μ2) (hd : ∀ δ μ, I l δ μ → nx δ μ) :
    ForG (l.map f) G dg db nx rt δ μ := by
  refine ⟨fun i => I (l.take i), h0, fun i δ μ _ w => hG _ _ _ w, fun i d δ μ e w => ?_, fun δ μ w => ?_⟩
  · obtain ⟨x, hx, rfl⟩ := map_at e
    have t := turn (l.take i) x (l.drop (i + 1)) δ μ (split_at hx) w
    rw [← take_snoc hx] at t
    exact t
  · rw [List.length_map, List.take_length] at w
    exact hd δ μ w
/-- range -/
theorem for_rng {lo : Int} {n : Nat} {dg : DG} {db : DS} (I : Nat → Ss → Mem → Prop) (h0 : Wn (I 0) δ μ) (turn : ∀ i δ μ, i < n → I i δ μ → dg (.int (lo + (i : Nat))) δ μ fun δ2 μ2 => db ⟨Wn (I (i + 1)), rt, nx, Wn (I (i + 1))⟩ δ2 μ2) (hd : ∀ δ μ, I n δ μ → nx δ μ) :
    ForG (rangeD lo n) (fun _ => True) dg db nx rt δ μ := by
  refine ⟨I, h0, fun _ _ _ _ _ => trivial, fun i d δ μ e w => ?_, fun δ μ w => ?_⟩
  · obtain ⟨hi, rfl⟩ := rangeD_get e
    exact turn i δ μ hi w
  · rw [rangeD_len] at w
    exact hd δ μ w
/-! ### comprehensions -/
/-- each item gives something, or nothing, as h tells -/
theorem lc_g {α : Type} {l : List α} {f : α → D} {G : Mem → Prop} {dg : DG} {dt : DT} {de : DE} {vs : List Nat} {R : List D → Ss → Mem → Prop} (h : α → Option D) (hG : G μ) (hn : noOwn δ vs = true) (hl : l.length ≤ 16777216)
    (turn : ∀ a ∈ l, ∀ P : Option D → Mem → Prop, P (h a) μ → dg (f a) (wipeD δ vs) μ fun δ2 μ2 => wipeD δ2 vs = wipeD δ vs ∧ dt δ2 μ2 fun b δ3 μ3 => δ3 = δ2 ∧ if b = true then de δ2 μ3 fun y δ4 μ4 => δ4 = δ2 ∧ P (some y) μ4 else P none μ3)
    (hd : R (l.filterMap h) δ μ) : LcG (l.map f) G dg dt de vs R δ μ := by
  refine ⟨hn, fun i acc μ' => μ' = μ ∧ acc = (l.take i).filterMap h, ⟨rfl, rfl⟩, fun i acc μ' _ w => by rw [w.1]; exact hG, fun i d acc μ' e w => ?_, fun acc μ' w => ?_⟩
  · obtain ⟨rfl, rfl⟩ := w
    obtain ⟨x, hx, rfl⟩ := map_at e
    have hi : i < l.length := (List.getElem?_eq_some_iff.mp hx).1
    have hz : ((l.take i).filterMap h).length < sizeLine := by
      have h1 := List.length_filterMap_le h (l.take i)
      have h2 : (l.take i).length ≤ i := by rw [List.length_take]; omega
      show _ < 16777216
      omega
    refine turn x (List.mem_of_getElem? hx) (fun o μ4 => match o with | some y => ((l.take i).filterMap h).length < sizeLine ∧ (μ4 = μ' ∧ (l.take i).filterMap h ++ [y] = (l.take (i + 1)).filterMap h) | none => (μ4 = μ' ∧ (l.take i).filterMap h = (l.take (i + 1)).filterMap h)) ?_
    rw [take_snoc hx, List.filterMap_append]
    cases hh : h x with
    | none => exact ⟨rfl, by simp [hh]⟩
    | some y => exact ⟨hz, rfl, by simp [hh]⟩
  · obtain ⟨rfl, rfl⟩ := w
    rw [List.length_map, List.take_length]
    exact hd
theorem lc_p {α : Type} {l : List α} {f : α → D} {dg : DG} {dt : DT} {de : DE} {vs : List Nat} {R : List D → Ss → Mem → Prop} (h : α → Option D) (hn : noOwn δ vs = true) (hl : l.length ≤ 16777216)
    (turn : ∀ a ∈ l, ∀ P : Option D → Mem → Prop, P (h a) μ → dg (f a) (wipeD δ vs) μ fun δ2 μ2 => wipeD δ2 vs = wipeD δ vs ∧ dt δ2 μ2 fun b δ3 μ3 => δ3 = δ2 ∧ if b = true then de δ2 μ3 fun y δ4 μ4 => δ4 = δ2 ∧ P (some y) μ4 else P none μ3)
    (hd : R (l.filterMap h) δ μ) : LcG (l.map f) (fun _ => True) dg dt de vs R δ μ := lc_g h trivial hn hl turn hd
theorem fm_some {α β : Type} (g : α → β) (l : List α) : l.filterMap (fun a => some (g a)) = l.map g := by
  induction l with
  | nil => rfl
  | cons a l ih => simp [ih]
/-- each item gives g of it -/
theorem lc_map {α : Type} {l : List α} {f : α → D} {dg : DG} {de : DE} {vs : List Nat} {R : List D → Ss → Mem → Prop} (g : α → D) (hn : noOwn δ vs = true) (hl : l.length ≤ 16777216)
    (turn : ∀ a ∈ l, ∀ P : D → Mem → Prop, P (g a) μ → dg (f a) (wipeD δ vs) μ fun δ2 μ2 => wipeD δ2 vs = wipeD δ vs ∧ de δ2 μ2 fun y δ4 μ4 => δ4 = δ2 ∧ P y μ4)
    (hd : R (l.map g) δ μ) : LcG (l.map f) (fun _ => True) dg dYes de vs R δ μ := by
  refine lc_p (fun a => some (g a)) hn hl (fun a ha P hP => ?_) (by rw [fm_some]; exact hd)
  show dg (f a) (wipeD δ vs) μ fun δ2 μ2 => wipeD δ2 vs = wipeD δ vs ∧ (δ2 = δ2 ∧ if true = true then de δ2 μ2 fun y δ4 μ4 => δ4 = δ2 ∧ P (some y) μ4 else P none μ2)
  simp only [if_true, true_and]
  exact turn a ha (fun y μ4 => P (some y) μ4) hP
/-- each item gives some b with T -/
theorem lc_nd {α β : Type} {l : List α} {f : α → D} {dg : DG} {de : DE} {vs : List Nat} {R : List D → Ss → Mem → Prop} (fb : β → D) (T : α → β → Prop) (hn : noOwn δ vs = true) (hl : l.length ≤ 16777216)
    (turn : ∀ a ∈ l, ∀ P : D → Mem → Prop, (∀ b, T a b → P (fb b) μ) → dg (f a) (wipeD δ vs) μ fun δ2 μ2 => wipeD δ2 vs = wipeD δ vs ∧ de δ2 μ2 fun y δ4 μ4 => δ4 = δ2 ∧ P y μ4)
    (hd : ∀ bs : List β, bs.length = l.length → (∀ (i : Nat) (a : α) (b : β), l[i]? = some a → bs[i]? = some b → T a b) → R (bs.map fb) δ μ) : LcG (l.map f) (fun _ => True) dg dYes de vs R δ μ := by
  refine ⟨hn, fun i acc μ' => μ' = μ ∧ i ≤ l.length ∧ ∃ bs : List β, bs.length = i ∧ acc = bs.map fb ∧ ∀ (j : Nat) (a : α) (b : β), l[j]? = some a → bs[j]? = some b → T a b, ⟨rfl, Nat.zero_le _, [], rfl, rfl, fun j a b _ h => by simp at h⟩, fun _ _ _ _ _ => trivial, fun i d acc μ' e w => ?_, fun acc μ' w => ?_⟩
  · obtain ⟨rfl, _, bs, hb, rfl, ht⟩ := w
    obtain ⟨x, hx, rfl⟩ := map_at e
    have hi : i < l.length := (List.getElem?_eq_some_iff.mp hx).1
    show dg (f x) (wipeD δ vs) μ' fun δ2 μ2 => wipeD δ2 vs = wipeD δ vs ∧ (δ2 = δ2 ∧ if true = true then de δ2 μ2 fun y δ4 μ4 => δ4 = δ2 ∧ (bs.map fb).length < sizeLine ∧ _ else _)
    simp only [if_true, true_and]
    refine turn x (List.mem_of_getElem? hx) (fun y μ4 => (bs.map fb).length < sizeLine ∧ μ4 = μ' ∧ i + 1 ≤ l.length ∧ ∃ cs : List β, cs.length = i + 1 ∧ bs.map fb ++ [y] = cs.map fb ∧ ∀ (j : Nat) (a : α) (b : β), l[j]? = some a → cs[j]? = some b → T a b) fun b hT => ?_
    refine ⟨by rw [List.length_map]; show _ < 16777216; omega, rfl, hi, bs ++ [b], by simp [hb], by simp, fun j a c h1 h2 => ?_⟩
    by_cases hj : j < bs.length
    · rw [List.getElem?_append_left hj] at h2
      exact ht j a c h1 h2
    · rw [List.getElem?_append_right (by omega)] at h2
      have : j - bs.length = 0 := by
        by_cases hz : j - bs.length = 0
        · exact hz
        · rw [List.getElem?_eq_none (by simp; omega)] at h2; cases h2
      rw [this] at h2
      have e2 : b = c := by simpa using h2
      have e3 : j = i := by omega
      rw [e3, hx] at h1
      cases h1
      rw [← e2]; exact hT
  · obtain ⟨rfl, _, bs, hb, rfl, ht⟩ := w
    rw [List.length_map] at hb
    exact hd bs hb ht
theorem lc_gen {α β : Type} {l : List α} {f : α → D} {dg : DG} {de : DE} {vs : List Nat} {R : List D → Ss → Mem → Prop} (fb : β → D) (T : β → Prop) (hn : noOwn δ vs = true) (hl : l.length ≤ 16777216)
    (turn : ∀ a ∈ l, ∀ P : D → Mem → Prop, (∀ b, T b → P (fb b) μ) → dg (f a) (wipeD δ vs) μ fun δ2 μ2 => wipeD δ2 vs = wipeD δ vs ∧ de δ2 μ2 fun y δ4 μ4 => δ4 = δ2 ∧ P y μ4)
    (hd : ∀ bs : List β, bs.length = l.length → (∀ b ∈ bs, T b) → R (bs.map fb) δ μ) : LcG (l.map f) (fun _ => True) dg dYes de vs R δ μ := by
  refine lc_nd fb (fun _ b => T b) hn hl turn fun bs h1 h2 => hd bs h1 fun b hb => ?_
  obtain ⟨i, hi, e⟩ := List.getElem_of_mem hb
  exact h2 i _ b (List.getElem?_eq_getElem (by omega)) (by rw [List.getElem?_eq_getElem hi, e])
theorem lc_rng {β : Type} {lo : Int} {n : Nat} {dg : DG} {de : DE} {vs : List Nat} {R : List D → Ss → Mem → Prop} (fb : β → D) (T : β → Prop) (hn : noOwn δ vs = true) (hl : n ≤ 16777216)
    (turn : ∀ i, i < n → ∀ P : D → Mem → Prop, (∀ b, T b → P (fb b) μ) → dg (.int (lo + (i : Nat))) (wipeD δ vs) μ fun δ2 μ2 => wipeD δ2 vs = wipeD δ vs ∧ de δ2 μ2 fun y δ4 μ4 => δ4 = δ2 ∧ P y μ4)
    (hd : ∀ bs : List β, bs.length = n → (∀ b ∈ bs, T b) → R (bs.map fb) δ μ) : LcG (rangeD lo n) (fun _ => True) dg dYes de vs R δ μ := by
  unfold rangeD
  refine lc_gen fb T hn (by rw [List.length_range]; exact hl) (fun a ha => turn a (List.mem_range.mp ha)) fun bs h1 h2 => hd bs (by rw [List.length_range] at h1; exact h1) h2
/-- .. over range, each place gives g of it -/
theorem lc_rmap {lo : Int} {n : Nat} {dg : DG} {de : DE} {vs : List Nat} {R : List D → Ss → Mem → Prop} (g : Nat → D) (hn : noOwn δ vs = true) (hl : n ≤ 16777216)
    (turn : ∀ i, i < n → ∀ P : D → Mem → Prop, P (g i) μ → dg (.int (lo + (i : Nat))) (wipeD δ vs) μ fun δ2 μ2 => wipeD δ2 vs = wipeD δ vs ∧ de δ2 μ2 fun y δ4 μ4 => δ4 = δ2 ∧ P y μ4)
    (hd : R ((List.range n).map g) δ μ) : LcG (rangeD lo n) (fun _ => True) dg dYes de vs R δ μ := by
  unfold rangeD
  exact lc_map g hn (by rw [List.length_range]; exact hl) (fun a ha => turn a (List.mem_range.mp ha)) hd
/-! ### data that may be compared -/
def plD (m : Nat) (x : D) : Prop := ∃ p, pd x = some p ∧ PyData.canLay0 p = true ∧ p.depth ≤ m
def plDs (m : Nat) (l : List D) : Prop := ∃ ps, pds l = some ps ∧ PyData.canLayAll0 ps = true ∧ PyData.depthAll ps ≤ m
theorem plD.mono {m m' : Nat} {x : D} (h : plD m x) (hm : m ≤ m') : plD m' x := by
  obtain ⟨p, h1, h2, h3⟩ := h
  exact ⟨p, h1, h2, by omega⟩
theorem plDs.mono {m m' : Nat} {x : List D} (h : plDs m x) (hm : m ≤ m') : plDs m' x := by
  obtain ⟨p, h1, h2, h3⟩ := h
  exact ⟨p, h1, h2, by omega⟩
theorem pl_int {i : Int} : plD 1 (.int i) := ⟨.int i, rfl, by simp [PyData.canLay0], by simp [PyData.depth]⟩
theorem pl_bl {i : Bool} : plD 1 (.bl i) := ⟨.bool i, rfl, by simp [PyData.canLay0], by simp [PyData.depth]⟩
theorem pl_non : plD 1 .non := ⟨.none, rfl, by simp [PyData.canLay0], by simp [PyData.depth]⟩
theorem str_ok {z : Str} (h : ∀ c ∈ z.cps.toList, c < 0x110000) : PyData.strOk z = true := by
  unfold PyData.strOk
  rw [Array.all_eq_true_iff_forall_mem]
  intro c hc
  exact decide_eq_true (h c (by simpa using hc))
theorem pl_str {z : Str} (h : ∀ c ∈ z.cps.toList, c < 0x110000) : plD 1 (.str z) := ⟨.str z, rfl, by simp [PyData.canLay0, str_ok h], by simp [PyData.depth]⟩
theorem pls_nil {m : Nat} : plDs m [] := ⟨[], rfl, by simp [PyData.canLayAll0], by simp [PyData.depthAll]⟩
theorem pls_cons {m : Nat} {x : D} {l : List D} (h : plD m x) (h' : plDs m l) : plDs m (x :: l) := by
  obtain ⟨p, h1, h2, h3⟩ := h
  obtain ⟨ps, g1, g2, g3⟩ := h'
  refine ⟨p :: ps, ?_, ?_, ?_⟩
  · show (pd x).bind (fun y => (pds l).map (y :: ·)) = _
    rw [h1, g1]; rfl
  · simp [PyData.canLayAll0, h2, g2]
  · simp only [PyData.depthAll]; omega
theorem pls_all {m : Nat} : ∀ {l : List D}, (∀ x ∈ l, plD m x) → plDs m l
  | [], _ => pls_nil
  | a :: l, h => pls_cons (h a List.mem_cons_self) (pls_all fun b hb => h b (List.mem_cons_of_mem _ hb))
theorem pls_map {α : Type} {m : Nat} {f : α → D} {l : List α} (h : ∀ a ∈ l, plD m (f a)) : plDs m (l.map f) := pls_all fun x hx => by
  obtain ⟨a, ha, rfl⟩ := List.mem_map.mp hx
  exact h a ha
theorem pl_lst {m : Nat} {l : List D} (h : plDs m l) : plD (m + 1) (.lst l) := by
  obtain ⟨ps, g1, g2, g3⟩ := h
  exact ⟨.list ps, by show (pds l).map PyData.list = _; rw [g1]; rfl, by simpa [PyData.canLay0] using g2, by simp only [PyData.depth]; omega⟩
theorem pl_tup {m : Nat} {l : List D} (h : plDs m l) : plD (m + 1) (.tup l) := by
  obtain ⟨ps, g1, g2, g3⟩ := h
  exact ⟨.tuple ps, by show (pds l).map PyData.tuple = _; rw [g1]; rfl, by simpa [PyData.canLay0] using g2, by simp only [PyData.depth]; omega⟩
theorem pl_nil : plD 2 (.lst []) := pl_lst (m := 1) pls_nil
theorem plD.sh {m : Nat} {x : D} (h : plD m x) (hm : m ≤ 64) : shD x = true := by
  obtain ⟨p, h1, h2, h3⟩ := h
  unfold shD
  rw [h1]
  show (PyData.canLay0 p && decide (p.depth ≤ 64)) = true
  rw [h2, decide_eq_true (by omega)]
  rfl
theorem plD.refl {m : Nat} {x : D} (h : plD m x) : eqD x x = true := by
  obtain ⟨p, h1, h2, h3⟩ := h
  unfold eqD
  rw [h1]
  exact PySem.SeqAt.eqv_refl p h2
def eqDs (xs ys : List D) : Bool := match pds xs, pds ys with
  | some p, some q => PyData.eqvAll p q
  | _, _ => false
theorem eqD_lst (xs ys : List D) : eqD (.lst xs) (.lst ys) = eqDs xs ys := by
  unfold eqD eqDs
  show (match (pds xs).map PyData.list, (pds ys).map PyData.list with | some p, some q => PyData.eqv p q | _, _ => false) = _
  cases pds xs <;> cases pds ys <;> simp [PyData.eqv]
theorem eqD_tup (xs ys : List D) : eqD (.tup xs) (.tup ys) = eqDs xs ys := by
  unfold eqD eqDs
  show (match (pds xs).map PyData.tuple, (pds ys).map PyData.tuple with | some p, some q => PyData.eqv p q | _, _ => false) = _
  cases pds xs <;> cases pds ys <;> simp [PyData.eqv]
theorem eqDs_nil : eqDs [] [] = true := by simp [eqDs, pds, PyData.eqvAll]
theorem eqDs_nc (y : D) (ys : List D) : eqDs [] (y :: ys) = false := by
  unfold eqDs
  cases e : pds (y :: ys) with
  | none => rfl
  | some p =>
    have e : (pd y).bind (fun x => (pds ys).map (x :: ·)) = some p := e
    cases e1 : pd y with
    | none => rw [e1] at e; cases e
    | some a =>
      cases e2 : pds ys with
      | none => rw [e1, e2] at e; cases e
      | some b =>
        rw [e1, e2] at e
        cases (show some (a :: b) = some p from e)
        simp [pds, PyData.eqvAll]
theorem eqDs_cn (y : D) (ys : List D) : eqDs (y :: ys) [] = false := by
  unfold eqDs
  cases e : pds (y :: ys) with
  | none => rfl
  | some p =>
    have e : (pd y).bind (fun x => (pds ys).map (x :: ·)) = some p := e
    cases e1 : pd y with
    | none => rw [e1] at e; cases e
    | some a =>
      cases e2 : pds ys with
      | none => rw [e1, e2] at e; cases e
      | some b =>
        rw [e1, e2] at e
        cases (show some (a :: b) = some p from e)
        simp [pds, PyData.eqvAll]
theorem eqDs_cons (x y : D) (xs ys : List D) : eqDs (x :: xs) (y :: ys) = (eqD x y && eqDs xs ys) := by
  unfold eqDs eqD
  show (match (pd x).bind (fun z => (pds xs).map (z :: ·)), (pd y).bind (fun z => (pds ys).map (z :: ·)) with | some p, some q => PyData.eqvAll p q | _, _ => false) = _
  cases pd x <;> cases pd y <;> cases pds xs <;> cases pds ys <;> simp [PyData.eqvAll]
theorem eqD_int (i j : Int) : eqD (.int i) (.int j) = decide (i = j) := by
  show (i == j) = _
  by_cases h : i = j <;> simp [h]
theorem eqD_str (i j : Str) : eqD (.str i) (.str j) = decide (i = j) := by
  show (i == j) = _
  by_cases h : i = j <;> simp [h]
theorem eqDs_map {α : Type} [DecidableEq α] {f : α → D} : ∀ (l l' : List α), (∀ a ∈ l, ∀ b ∈ l', eqD (f a) (f b) = decide (a = b)) → eqDs (l.map f) (l'.map f) = decide (l = l')
  | [], [], _ => by simp [eqDs_nil]
  | [], b :: l', _ => by rw [List.map_nil, List.map_cons, eqDs_nc]; simp
  | a :: l, [], _ => by rw [List.map_nil, List.map_cons, eqDs_cn]; simp
  | a :: l, b :: l', h => by
    rw [List.map_cons, List.map_cons, eqDs_cons, h a List.mem_cons_self b List.mem_cons_self, eqDs_map l l' fun x hx y hy => h x (List.mem_cons_of_mem _ hx) y (List.mem_cons_of_mem _ hy)]
    by_cases h1 : a = b <;> by_cases h2 : l = l' <;> simp [h1, h2]
theorem eqDs_mapnil {α : Type} {f : α → D} (l : List α) : eqDs (l.map f) [] = decide (l = []) := by
  cases l with
  | nil => simp [eqDs_nil]
  | cons a l => rw [List.map_cons, eqDs_cn]; simp
/-- x == y of data -/
theorem eq_pl {m m' : Nat} {x y : D} (h1 : plD m x) (h2 : plD m' y) (m1 : m ≤ 64) (m2 : m' ≤ 64) {b : Bool} (e : eqD x y = b) (h : QM' (.bl b) μ) : rdEq x y μ QM' := i_eq (h1.sh m1) (h2.sh m2) (by rw [e]; exact h)
theorem ne_pl {m m' : Nat} {x y : D} (h1 : plD m x) (h2 : plD m' y) (m1 : m ≤ 64) (m2 : m' ≤ 64) {b : Bool} (e : eqD x y = b) (h : QM' (.bl (!b)) μ) : rdNe x y μ QM' := i_ne (h1.sh m1) (h2.sh m2) (by rw [e]; exact h)
theorem eq_nil {α : Type} {m : Nat} {l : List α} {f : α → D} (h1 : plD m (.lst (l.map f))) (m1 : m ≤ 64) (h : QM' (.bl (decide (l = []))) μ) : rdEq (.lst (l.map f)) (.lst []) μ QM' := eq_pl h1 pl_nil m1 (by decide) (by rw [eqD_lst, eqDs_mapnil]) h
/-! a slot's own list is compared -/
theorem eqv_pl {m m' : Nat} {neg : Bool} {x y : D} {R : D → Prop} (h1 : plD m x) (h2 : plD m' y) (m1 : m ≤ 64) (m2 : m' ≤ 64) {b : Bool} (e : eqD x y = b) (h : R (.bl (if neg then !b else b))) : EqV neg x y μ R := ⟨h1.sh m1, by rw [drf_sh (h2.sh m2)]; exact h2.sh m2, by rw [drf_sh (h2.sh m2), e]; exact h⟩
theorem own_eq_nil {α : Type} {m : Nat} {l : List α} {f : α → D} {R : D → Prop} (h1 : plD m (.lst (l.map f))) (m1 : m ≤ 64) (h : R (.bl (decide (l = [])))) : EqV false (.lst (l.map f)) (.lst []) μ R := eqv_pl (b := decide (l = [])) h1 pl_nil m1 (by decide) (by rw [eqD_lst, eqDs_mapnil]) h
/-! x in l, of data -/
theorem anyD_map {α : Type} [DecidableEq α] {f : α → D} {a : α} : ∀ {l : List α}, (∀ b ∈ l, eqD (f b) (f a) = decide (b = a)) → anyD (f a) (l.map f) = decide (a ∈ l)
  | [], _ => rfl
  | b :: l, h => by
    have ih := anyD_map (f := f) (a := a) (l := l) fun x hx => h x (List.mem_cons_of_mem _ hx)
    unfold anyD at ih ⊢
    rw [List.map_cons, List.any_cons, ih, h b List.mem_cons_self]
    by_cases e : b = a
    · simp [e]
    · have e2 : ¬ a = b := fun z => e z.symm
      simp [e, e2]
/-! ### texts -/
theorem scps_app (a b : Str) : (a ++ b).cps.toList = a.cps.toList ++ b.cps.toList := TL.tl_append a b
theorem slen_cps (a : Str) : a.length = a.cps.toList.length := by simp [Str.length]
theorem slen_app (a b : Str) : (a ++ b).length = a.length + b.length := by rw [slen_cps, scps_app, List.length_append, ← slen_cps, ← slen_cps]
theorem slen_one (c : Nat) : (⟨#[c]⟩ : Str).length = 1 := rfl
theorem slen_cut (z : Str) (lo hi : Option Int) : (cutS z lo hi).length = HT.sIx z.length z.length hi - HT.sIx z.length 0 lo := by
  rw [slen_cps]
  unfold cutS
  have h1 : HT.sIx z.length z.length hi ≤ z.length := HT.sIx_le _ _ (Nat.le_refl _) hi
  have h2 : HT.sIx z.length 0 lo ≤ z.length := HT.sIx_le _ _ (Nat.zero_le _) lo
  have h3 : z.cps.size = z.length := rfl
  simp
  omega
theorem slen_to (z : Str) (k : Int) (h : 0 ≤ k) : (cutS z none (some k)).length = min k.toNat z.length := by
  obtain ⟨n, rfl⟩ := Int.eq_ofNat_of_zero_le h
  rw [slen_cut, HT.sIx_nat]
  show _ - 0 = _
  simp
theorem slen_from (z : Str) (k : Int) (h : 0 ≤ k) : (cutS z (some k) none).length = z.length - k.toNat := by
  obtain ⟨n, rfl⟩ := Int.eq_ofNat_of_zero_le h
  rw [slen_cut, HT.sIx_nat]
  show z.length - _ = _
  simp
  omega
theorem sz5 {n : Nat} (h : n ≤ 100000) : n ≤ sizeLine := Nat.le_trans h (by decide)
instance st_slS {z : Str} {lo hi : Option Int} : Step (rdSl (.str z) lo hi μ QM') (z.length ≤ 100000 ∧ QM' (.str (cutS z lo hi)) μ) := ⟨fun h => i_slS (sz5 h.1) h.2⟩
instance st_addS {i j : Str} : Step (rdAdd (.str i) (.str j) μ QM') (i.length + j.length ≤ 100000 ∧ QM' (.str (i ++ j)) μ) := ⟨fun h => i_addS (sz5 h.1) h.2⟩
instance st_lenS {z : Str} : Step (rdLen [.str z] μ QM') (z.length ≤ 100000 ∧ QM' (.int z.length) μ) := ⟨fun h => i_lenS (sz5 h.1) h.2⟩
theorem ix_str {z : Str} {i : Int} (h0 : 0 ≤ i) (h1 : i < z.length) (hz : z.length ≤ 100000) (h : ∀ c, z.cps.toList[i.toNat]? = some c → QM' (.str ⟨#[c]⟩) μ) : rdIx (.str z) (.int i) μ QM' := by
  obtain ⟨n, rfl⟩ := Int.eq_ofNat_of_zero_le h0
  have hn : n < z.cps.toList.length := by rw [← slen_cps]; omega
  refine i_ixS (sz5 hz) (c := z.cps.toList[n]) ?_ (h _ (by simp))
  unfold L2.atI ixN
  rw [if_pos (by omega), if_pos (by omega)]
  simp
instance st_ixS {z : Str} {i : Int} : Step (rdIx (.str z) (.int i) μ QM') ((0 ≤ i ∧ i < z.length) ∧ z.length ≤ 100000 ∧ ∀ c, z.cps.toList[i.toNat]? = some c → QM' (.str ⟨#[c]⟩) μ) := ⟨fun h => ix_str h.1.1 h.1.2 h.2.1 h.2.2⟩
/-! ### parts of a list -/
theorem sIx_nat {n d k : Nat} : HT.sIx n d (some (k : Int)) = min k n := by
  rw [HT.sIx_nat]
/-! ### a written list, asked by a place -/
theorem ix_ofT {l : List D} {i : Int} {n : Nat} {d : D} (hi : i = n) (h : l[n]? = some d) (q : QM' d μ) : rdIx (.tup l) (.int i) μ QM' := by
  subst hi
  exact i_ixT (atI_nat h) q
def IxA (Q : D → Prop) (i : Int) : Nat → List D → Prop
  | _, [] => True
  | n, [d] => i = n → Q d
  | n, d :: e :: l => (i = n → Q d) ∧ IxA Q i (n + 1) (e :: l)
theorem IxA.at {Q : D → Prop} {i : Int} : ∀ {l : List D} {n k : Nat} {d : D}, IxA Q i n l → l[k]? = some d → i = ((n + k : Nat) : Int) → Q d
  | [], n, k, d, _, e, _ => by simp at e
  | [x], n, 0, d, h, e, hi => by simp at e; subst e; exact h hi
  | [x], n, k + 1, d, h, e, hi => by simp at e
  | x :: y :: l, n, 0, d, h, e, hi => by simp at e; subst e; exact h.1 hi
  | x :: y :: l, n, k + 1, d, h, e, hi => IxA.at (l := y :: l) (n := n + 1) (k := k) h.2 (by simpa using e) (by omega)
theorem ix_all {l : List D} {i : Int} (hb : 0 ≤ i ∧ i < l.length) (h : IxA (fun d => QM' d μ) i 0 l) : rdIx (.lst l) (.int i) μ QM' := by
  obtain ⟨k, rfl⟩ := Int.eq_ofNat_of_zero_le hb.1
  have hk : k < l.length := by omega
  exact i_ixL (atI_nat (List.getElem?_eq_getElem hk)) (IxA.at h (List.getElem?_eq_getElem hk) (by omega))
theorem ix_allT {l : List D} {i : Int} (hb : 0 ≤ i ∧ i < l.length) (h : IxA (fun d => QM' d μ) i 0 l) : rdIx (.tup l) (.int i) μ QM' := by
  obtain ⟨k, rfl⟩ := Int.eq_ofNat_of_zero_le hb.1
  have hk : k < l.length := by omega
  exact i_ixT (atI_nat (List.getElem?_eq_getElem hk)) (IxA.at h (List.getElem?_eq_getElem hk) (by omega))
def IxI (i v : Int) : Nat → List Int → Prop
  | _, [] => False
  | n, [a] => i = n ∧ v = a
  | n, a :: b :: l => (i = n ∧ v = a) ∨ IxI i v (n + 1) (b :: l)
theorem IxI.at {i v : Int} : ∀ {l : List Int} {n k : Nat}, l[k]? = some v → i = ((n + k : Nat) : Int) → IxI i v n l
  | [], n, k, e, _ => by simp at e
  | [x], n, 0, e, hi => by simp at e; exact ⟨hi, e.symm⟩
  | [x], n, k + 1, e, hi => by simp at e
  | x :: y :: l, n, 0, e, hi => by simp at e; exact .inl ⟨hi, e.symm⟩
  | x :: y :: l, n, k + 1, e, hi => .inr (IxI.at (l := y :: l) (n := n + 1) (k := k) (by simpa using e) (by omega))
theorem ix_ints {l : List Int} {i : Int} (hb : 0 ≤ i ∧ i < l.length) (h : ∀ v, IxI i v 0 l → QM' (.int v) μ) : rdIx (.lst (l.map .int)) (.int i) μ QM' := by
  obtain ⟨k, rfl⟩ := Int.eq_ofNat_of_zero_le hb.1
  have hk : k < l.length := by omega
  exact i_ixL (atI_nat (by rw [List.getElem?_map, List.getElem?_eq_getElem hk]; rfl)) (h l[k] (IxI.at (List.getElem?_eq_getElem hk) (by omega)))
theorem ix_intsT {l : List Int} {i : Int} (hb : 0 ≤ i ∧ i < l.length) (h : ∀ v, IxI i v 0 l → QM' (.int v) μ) : rdIx (.tup (l.map .int)) (.int i) μ QM' := by
  obtain ⟨k, rfl⟩ := Int.eq_ofNat_of_zero_le hb.1
  have hk : k < l.length := by omega
  exact i_ixT (atI_nat (by rw [List.getElem?_map, List.getElem?_eq_getElem hk]; rfl)) (h l[k] (IxI.at (List.getElem?_eq_getElem hk) (by omega)))
instance (priority := low) lstI_2 {a0 a1 i : Int} {μ : Mem} {Q : QM} : Step (rdIx (.lst [.int a0, .int a1]) (.int i) μ Q) ((0 ≤ i ∧ i < 2) ∧ ∀ v : Int, (i = 0 ∧ v = a0 ∨ i = 1 ∧ v = a1) → Q (.int v) μ) := ⟨fun h => ix_ints (l := [a0, a1]) h.1 h.2⟩
instance (priority := low - 1) lstD_2 {a0 a1 : D} {i : Int} {μ : Mem} {Q : QM} : Step (rdIx (.lst [a0, a1]) (.int i) μ Q) ((0 ≤ i ∧ i < 2) ∧ (i = 0 → Q a0 μ) ∧ (i = 1 → Q a1 μ)) := ⟨fun h => ix_all (l := [a0, a1]) h.1 h.2⟩
instance (priority := low) lstI_3 {a0 a1 a2 i : Int} {μ : Mem} {Q : QM} : Step (rdIx (.lst [.int a0, .int a1, .int a2]) (.int i) μ Q) ((0 ≤ i ∧ i < 3) ∧ ∀ v : Int, (i = 0 ∧ v = a0 ∨ i = 1 ∧ v = a1 ∨ i = 2 ∧ v = a2) → Q (.int v) μ) := ⟨fun h => ix_ints (l := [a0, a1, a2]) h.1 h.2⟩
instance (priority := low - 1) lstD_3 {a0 a1 a2 : D} {i : Int} {μ : Mem} {Q : QM} : Step (rdIx (.lst [a0, a1, a2]) (.int i) μ Q) ((0 ≤ i ∧ i < 3) ∧ (i = 0 → Q a0 μ) ∧ (i = 1 → Q a1 μ) ∧ (i = 2 → Q a2 μ)) := ⟨fun h => ix_all (l := [a0, a1, a2]) h.1 h.2⟩
instance (priority := low) lstI_4 {a0 a1 a2 a3 i : Int} {μ : Mem} {Q : QM} : Step (rdIx (.lst [.int a0, .int a1, .int a2, .int a3]) (.int i) μ Q) ((0 ≤ i ∧ i < 4) ∧ ∀ v : Int, (i = 0 ∧ v = a0 ∨ i = 1 ∧ v = a1 ∨ i = 2 ∧ v = a2 ∨ i = 3 ∧ v = a3) → Q (.int v) μ) := ⟨fun h => ix_ints (l := [a0, a1, a2, a3]) h.1 h.2⟩
instance (priority := low - 1) lstD_4 {a0 a1 a2 a3 : D} {i : Int} {μ : Mem} {Q : QM} : Step (rdIx (.lst [a0, a1, a2, a3]) (.int i) μ Q) ((0 ≤ i ∧ i < 4) ∧ (i = 0 → Q a0 μ) ∧ (i = 1 → Q a1 μ) ∧ (i = 2 → Q a2 μ) ∧ (i = 3 → Q a3 μ)) := ⟨fun h => ix_all (l := [a0, a1, a2, a3]) h.1 h.2⟩
instance (priority := low) lstI_5 {a0 a1 a2 a3 a4 i : Int} {μ : Mem} {Q : QM} : Step (rdIx (.lst [.int a0, .int a1, .int a2, .int a3, .int a4]) (.int i) μ Q) ((0 ≤ i ∧ i < 5) ∧ ∀ v : Int, (i = 0 ∧ v = a0 ∨ i = 1 ∧ v = a1 ∨ i = 2 ∧ v = a2 ∨ i = 3 ∧ v = a3 ∨ i = 4 ∧ v = a4) → Q (.int v) μ) := ⟨fun h => ix_ints (l := [a0, a1, a2, a3, a4]) h.1 h.2⟩
instance (priority := low - 1) lstD_5 {a0 a1 a2 a3 a4 : D} {i : Int} {μ : Mem} {Q : QM} : Step (rdIx (.lst [a0, a1, a2, a3, a4]) (.int i) μ Q) ((0 ≤ i ∧ i < 5) ∧ (i = 0 → Q a0 μ) ∧ (i = 1 → Q a1 μ) ∧ (i = 2 → Q a2 μ) ∧ (i = 3 → Q a3 μ) ∧ (i = 4 → Q a4 μ)) := ⟨fun h => ix_all (l := [a0, a1, a2, a3, a4]) h.1 h.2⟩
instance (priority := low) lstI_6 {a0 a1 a2 a3 a4 a5 i : Int} {μ : Mem} {Q : QM} : Step (rdIx (.lst [.int a0, .int a1, .int a2, .int a3, .int a4, .int a5]) (.int i) μ Q) ((0 ≤ i ∧ i < 6) ∧ ∀ v : Int, (i = 0 ∧ v = a0 ∨ i = 1 ∧ v = a1 ∨ i = 2 ∧ v = a2 ∨ i = 3 ∧ v = a3 ∨ i = 4 ∧ v = a4 ∨ i = 5 ∧ v = a5) → Q (.int v) μ) := ⟨fun h => ix_ints (l := [a0, a1, a2, a3, a4, a5]) h.1 h.2⟩
instance (priority := low - 1) lstD_6 {a0 a1 a2 a3 a4 a5 : D} {i : Int} {μ : Mem} {Q : QM} : Step (rdIx (.lst [a0, a1, a2, a3, a4, a5]) (.int i) μ Q) ((0 ≤ i ∧ i < 6) ∧ (i = 0 → Q a0 μ) ∧ (i = 1 → Q a1 μ) ∧ (i = 2 → Q a2 μ) ∧ (i = 3 → Q a3 μ) ∧ (i = 4 → Q a4 μ) ∧ (i = 5 → Q a5 μ)) := ⟨fun h => ix_all (l := [a0, a1, a2, a3, a4, a5]) h.1 h.2⟩
instance (priority := low) lstI_7 {a0 a1 a2 a3 a4 a5 a6 i : Int} {μ : Mem} {Q : QM} : Step (rdIx (.lst [.int a0, .int a1, .int a2, .int a3, .int a4, .int a5, .int a6]) (.int i) μ Q) ((0 ≤ i ∧ i < 7) ∧ ∀ v : Int, (i = 0 ∧ v = a0 ∨ i = 1 ∧ v = a1 ∨ i = 2 ∧ v = a2 ∨ i = 3 ∧ v = a3 ∨ i = 4 ∧ v = a4 ∨ i = 5 ∧ v = a5 ∨ i = 6 ∧ v = a6) → Q (.int v) μ) := ⟨fun h => ix_ints (l := [a0, a1, a2, a3, a4, a5, a6]) h.1 h.2⟩
instance (priority := low - 1) lstD_7 {a0 a1 a2 a3 a4 a5 a6 : D} {i : Int} {μ : Mem} {Q : QM} : Step (rdIx (.lst [a0, a1, a2, a3, a4, a5, a6]) (.int i) μ Q) ((0 ≤ i ∧ i < 7) ∧ (i = 0 → Q a0 μ) ∧ (i = 1 → Q a1 μ) ∧ (i = 2 → Q a2 μ) ∧ (i = 3 → Q a3 μ) ∧ (i = 4 → Q a4 μ) ∧ (i = 5 → Q a5 μ) ∧ (i = 6 → Q a6 μ)) := ⟨fun h => ix_all (l := [a0, a1, a2, a3, a4, a5, a6]) h.1 h.2⟩
instance (priority := low) lstI_8 {a0 a1 a2 a3 a4 a5 a6 a7 i : Int} {μ : Mem} {Q : QM} : Step (rdIx (.lst [.int a0, .int a1, .int a2, .int a3, .int a4, .int a5, .int a6, .int a7]) (.int i) μ Q) ((0 ≤ i ∧ i < 8) ∧ ∀ v : Int, (i = 0 ∧ v = a0 ∨ i = 1 ∧ v = a1 ∨ i = 2 ∧ v = a2 ∨ i = 3 ∧ v = a3 ∨ i = 4 ∧ v = a4 ∨ i = 5 ∧ v = a5 ∨ i = 6 ∧ v = a6 ∨ i = 7 ∧ v = a7) → Q (.int v) μ) := ⟨fun h => ix_ints (l := [a0, a1, a2, a3, a4, a5, a6, a7]) h.1 h.2⟩
instance (priority := low - 1) lstD_8 {a0 a1 a2 a3 a4 a5 a6 a7 : D} {i : Int} {μ : Mem} {Q : QM} : Step (rdIx (.lst [a0, a1, a2, a3, a4, a5, a6, a7]) (.int i) μ Q) ((0 ≤ i ∧ i < 8) ∧ (i = 0 → Q a0 μ) ∧ (i = 1 → Q a1 μ) ∧ (i = 2 → Q a2 μ) ∧ (i = 3 → Q a3 μ) ∧ (i = 4 → Q a4 μ) ∧ (i = 5 → Q a5 μ) ∧ (i = 6 → Q a6 μ) ∧ (i = 7 → Q a7 μ)) := ⟨fun h => ix_all (l := [a0, a1, a2, a3, a4, a5, a6, a7]) h.1 h.2⟩
instance (priority := low) lstI_9 {a0 a1 a2 a3 a4 a5 a6 a7 a8 i : Int} {μ : Mem} {Q : QM} : Step (rdIx (.lst [.int a0, .int a1, .int a2, .int a3, .int a4, .int a5, .int a6, .int a7, .int a8]) (.int i) μ Q) ((0 ≤ i ∧ i < 9) ∧ ∀ v : Int, (i = 0 ∧ v = a0 ∨ i = 1 ∧ v = a1 ∨ i = 2 ∧ v = a2 ∨ i = 3 ∧ v = a3 ∨ i = 4 ∧ v = a4 ∨ i = 5 ∧ v = a5 ∨ i = 6 ∧ v = a6 ∨ i = 7 ∧ v = a7 ∨ i = 8 ∧ v = a8) → Q (.int v) μ) := ⟨fun h => ix_ints (l := [a0, a1, a2, a3, a4, a5, a6, a7, a8]) h.1 h.2⟩
instance (priority := low - 1) lstD_9 {a0 a1 a2 a3 a4 a5 a6 a7 a8 : D} {i : Int} {μ : Mem} {Q : QM} : Step (rdIx (.lst [a0, a1, a2, a3, a4, a5, a6, a7, a8]) (.int i) μ Q) ((0 ≤ i ∧ i < 9) ∧ (i = 0 → Q a0 μ) ∧ (i = 1 → Q a1 μ) ∧ (i = 2 → Q a2 μ) ∧ (i = 3 → Q a3 μ) ∧ (i = 4 → Q a4 μ) ∧ (i = 5 → Q a5 μ) ∧ (i = 6 → Q a6 μ) ∧ (i = 7 → Q a7 μ) ∧ (i = 8 → Q a8 μ)) := ⟨fun h => ix_all (l := [a0, a1, a2, a3, a4, a5, a6, a7, a8]) h.1 h.2⟩
instance (priority := low - 1) lstD_10 {a0 a1 a2 a3 a4 a5 a6 a7 a8 a9 : D} {i : Int} {μ : Mem} {Q : QM} : Step (rdIx (.lst [a0, a1, a2, a3, a4, a5, a6, a7, a8, a9]) (.int i) μ Q) ((0 ≤ i ∧ i < 10) ∧ (i = 0 → Q a0 μ) ∧ (i = 1 → Q a1 μ) ∧ (i = 2 → Q a2 μ) ∧ (i = 3 → Q a3 μ) ∧ (i = 4 → Q a4 μ) ∧ (i = 5 → Q a5 μ) ∧ (i = 6 → Q a6 μ) ∧ (i = 7 → Q a7 μ) ∧ (i = 8 → Q a8 μ) ∧ (i = 9 → Q a9 μ)) := ⟨fun h => ix_all (l := [a0, a1, a2, a3, a4, a5, a6, a7, a8, a9]) h.1 h.2⟩
instance (priority := low - 1) lstD_11 {a0 a1 a2 a3 a4 a5 a6 a7 a8 a9 a10 : D} {i : Int} {μ : Mem} {Q : QM} : Step (rdIx (.lst [a0, a1, a2, a3, a4, a5, a6, a7, a8, a9, a10]) (.int i) μ Q) ((0 ≤ i ∧ i < 11) ∧ (i = 0 → Q a0 μ) ∧ (i = 1 → Q a1 μ) ∧ (i = 2 → Q a2 μ) ∧ (i = 3 → Q a3 μ) ∧ (i = 4 → Q a4 μ) ∧ (i = 5 → Q a5 μ) ∧ (i = 6 → Q a6 μ) ∧ (i = 7 → Q a7 μ) ∧ (i = 8 → Q a8 μ) ∧ (i = 9 → Q a9 μ) ∧ (i = 10 → Q a10 μ)) := ⟨fun h => ix_all (l := [a0, a1, a2, a3, a4, a5, a6, a7, a8, a9, a10]) h.1 h.2⟩
instance (priority := low - 1) lstD_12 {a0 a1 a2 a3 a4 a5 a6 a7 a8 a9 a10 a11 : D} {i : Int} {μ : Mem} {Q : QM} : Step (rdIx (.lst [a0, a1, a2, a3, a4, a5, a6, a7, a8, a9, a10, a11]) (.int i) μ Q) ((0 ≤ i ∧ i < 12) ∧ (i = 0 → Q a0 μ) ∧ (i = 1 → Q a1 μ) ∧ (i = 2 → Q a2 μ) ∧ (i = 3 → Q a3 μ) ∧ (i = 4 → Q a4 μ) ∧ (i = 5 → Q a5 μ) ∧ (i = 6 → Q a6 μ) ∧ (i = 7 → Q a7 μ) ∧ (i = 8 → Q a8 μ) ∧ (i = 9 → Q a9 μ) ∧ (i = 10 → Q a10 μ) ∧ (i = 11 → Q a11 μ)) := ⟨fun h => ix_all (l := [a0, a1, a2, a3, a4, a5, a6, a7, a8, a9, a10, a11]) h.1 h.2⟩
instance (priority := low - 1) lstD_13 {a0 a1 a2 a3 a4 a5 a6 a7 a8 a9 a10 a11 a12 : D} {i : Int} {μ : Mem} {Q : QM} : Step (rdIx (.lst [a0, a1, a2, a3, a4, a5, a6, a7, a8, a9, a10, a11, a12]) (.int i) μ Q) ((0 ≤ i ∧ i < 13) ∧ (i = 0 → Q a0 μ) ∧ (i = 1 → Q a1 μ) ∧ (i = 2 → Q a2 μ) ∧ (i = 3 → Q a3 μ) ∧ (i = 4 → Q a4 μ) ∧ (i = 5 → Q a5 μ) ∧ (i = 6 → Q a6 μ) ∧ (i = 7 → Q a7 μ) ∧ (i = 8 → Q a8 μ) ∧ (i = 9 → Q a9 μ) ∧ (i = 10 → Q a10 μ) ∧ (i = 11 → Q a11 μ) ∧ (i = 12 → Q a12 μ)) := ⟨fun h => ix_all (l := [a0, a1, a2, a3, a4, a5, a6, a7, a8, a9, a10, a11, a12]) h.1 h.2⟩
instance (priority := low - 1) lstD_14 {a0 a1 a2 a3 a4 a5 a6 a7 a8 a9 a10 a11 a12 a13 : D} {i : Int} {μ : Mem} {Q : QM} : Step (rdIx (.lst [a0, a1, a2, a3, a4, a5, a6, a7, a8, a9, a10, a11, a12, a13]) (.int i) μ Q) ((0 ≤ i ∧ i < 14) ∧ (i = 0 → Q a0 μ) ∧ (i = 1 → Q a1 μ) ∧ (i = 2 → Q a2 μ) ∧ (i = 3 → Q a3 μ) ∧ (i = 4 → Q a4 μ) ∧ (i = 5 → Q a5 μ) ∧ (i = 6 → Q a6 μ) ∧ (i = 7 → Q a7 μ) ∧ (i = 8 → Q a8 μ) ∧ (i = 9 → Q a9 μ) ∧ (i = 10 → Q a10 μ) ∧ (i = 11 → Q a11 μ) ∧ (i = 12 → Q a12 μ) ∧ (i = 13 → Q a13 μ)) := ⟨fun h => ix_all (l := [a0, a1, a2, a3, a4, a5, a6, a7, a8, a9, a10, a11, a12, a13]) h.1 h.2⟩
instance (priority := low) tupI_2 {a0 a1 i : Int} {μ : Mem} {Q : QM} : Step (rdIx (.tup [.int a0, .int a1]) (.int i) μ Q) ((0 ≤ i ∧ i < 2) ∧ ∀ v : Int, (i = 0 ∧ v = a0 ∨ i = 1 ∧ v = a1) → Q (.int v) μ) := ⟨fun h => ix_intsT (l := [a0, a1]) h.1 h.2⟩
instance (priority := low - 1) tupD_2 {a0 a1 : D} {i : Int} {μ : Mem} {Q : QM} : Step (rdIx (.tup [a0, a1]) (.int i) μ Q) ((0 ≤ i ∧ i < 2) ∧ (i = 0 → Q a0 μ) ∧ (i = 1 → Q a1 μ)) := ⟨fun h => ix_allT (l := [a0, a1]) h.1 h.2⟩
instance (priority := low) tupI_3 {a0 a1 a2 i : Int} {μ : Mem} {Q : QM} : Step (rdIx (.tup [.int a0, .int a1, .int a2]) (.int i) μ Q) ((0 ≤ i ∧ i < 3) ∧ ∀ v : Int, (i = 0 ∧ v = a0 ∨ i = 1 ∧ v = a1 ∨ i = 2 ∧ v = a2) → Q (.int v) μ) := ⟨fun h => ix_intsT (l := [a0, a1, a2]) h.1 h.2⟩
instance (priority := low - 1) tupD_3 {a0 a1 a2 : D} {i : Int} {μ : Mem} {Q : QM} : Step (rdIx (.tup [a0, a1, a2]) (.int i) μ Q) ((0 ≤ i ∧ i < 3) ∧ (i = 0 → Q a0 μ) ∧ (i = 1 → Q a1 μ) ∧ (i = 2 → Q a2 μ)) := ⟨fun h => ix_allT (l := [a0, a1, a2]) h.1 h.2⟩
instance (priority := low) tupI_4 {a0 a1 a2 a3 i : Int} {μ : Mem} {Q : QM} : Step (rdIx (.tup [.int a0, .int a1, .int a2, .int a3]) (.int i) μ Q) ((0 ≤ i ∧ i < 4) ∧ ∀ v : Int, (i = 0 ∧ v = a0 ∨ i = 1 ∧ v = a1 ∨ i = 2 ∧ v = a2 ∨ i = 3 ∧ v = a3) → Q (.int v) μ) := ⟨fun h => ix_intsT (l := [a0, a1, a2, a3]) h.1 h.2⟩
instance (priority := low - 1) tupD_4 {a0 a1 a2 a3 : D} {i : Int} {μ : Mem} {Q : QM} : Step (rdIx (.tup [a0, a1, a2, a3]) (.int i) μ Q) ((0 ≤ i ∧ i < 4) ∧ (i = 0 → Q a0 μ) ∧ (i = 1 → Q a1 μ) ∧ (i = 2 → Q a2 μ) ∧ (i = 3 → Q a3 μ)) := ⟨fun h => ix_allT (l := [a0, a1, a2, a3]) h.1 h.2⟩
instance (priority := low) tupI_5 {a0 a1 a2 a3 a4 i : Int} {μ : Mem} {Q : QM} : Step (rdIx (.tup [.int a0, .int a1, .int a2, .int a3, .int a4]) (.int i) μ Q) ((0 ≤ i ∧ i < 5) ∧ ∀ v : Int, (i = 0 ∧ v = a0 ∨ i = 1 ∧ v = a1 ∨ i = 2 ∧ v = a2 ∨ i = 3 ∧ v = a3 ∨ i = 4 ∧ v = a4) → Q (.int v) μ) := ⟨fun h => ix_intsT (l := [a0, a1, a2, a3, a4]) h.1 h.2⟩
instance (priority := low - 1) tupD_5 {a0 a1 a2 a3 a4 : D} {i : Int} {μ : Mem} {Q : QM} : Step (rdIx (.tup [a0, a1, a2, a3, a4]) (.int i) μ Q) ((0 ≤ i ∧ i < 5) ∧ (i = 0 → Q a0 μ) ∧ (i = 1 → Q a1 μ) ∧ (i = 2 → Q a2 μ) ∧ (i = 3 → Q a3 μ) ∧ (i = 4 → Q a4 μ)) := ⟨fun h => ix_allT (l := [a0, a1, a2, a3, a4]) h.1 h.2⟩
instance (priority := low) tupI_6 {a0 a1 a2 a3 a4 a5 i : Int} {μ : Mem} {Q : QM} : Step (rdIx (.tup [.int a0, .int a1, .int a2, .int a3, .int a4, .int a5]) (.int i) μ Q) ((0 ≤ i ∧ i < 6) ∧ ∀ v : Int, (i = 0 ∧ v = a0 ∨ i = 1 ∧ v = a1 ∨ i = 2 ∧ v = a2 ∨ i = 3 ∧ v = a3 ∨ i = 4 ∧ v = a4 ∨ i = 5 ∧ v = a5) → Q (.int v) μ) := ⟨fun h => ix_intsT (l := [a0, a1, a2, a3, a4, a5]) h.1 h.2⟩
instance (priority := low - 1) tupD_6 {a0 a1 a2 a3 a4 a5 : D} {i : Int} {μ : Mem} {Q : QM} : Step (rdIx (.tup [a0, a1, a2, a3, a4, a5]) (.int i) μ Q) ((0 ≤ i ∧ i < 6) ∧ (i = 0 → Q a0 μ) ∧ (i = 1 → Q a1 μ) ∧ (i = 2 → Q a2 μ) ∧ (i = 3 → Q a3 μ) ∧ (i = 4 → Q a4 μ) ∧ (i = 5 → Q a5 μ)) := ⟨fun h => ix_allT (l := [a0, a1, a2, a3, a4, a5]) h.1 h.2⟩
instance (priority := low) tupI_7 {a0 a1 a2 a3 a4 a5 a6 i : Int} {μ : Mem} {Q : QM} : Step (rdIx (.tup [.int a0, .int a1, .int a2, .int a3, .int a4, .int a5, .int a6]) (.int i) μ Q) ((0 ≤ i ∧ i < 7) ∧ ∀ v : Int, (i = 0 ∧ v = a0 ∨ i = 1 ∧ v = a1 ∨ i = 2 ∧ v = a2 ∨ i = 3 ∧ v = a3 ∨ i = 4 ∧ v = a4 ∨ i = 5 ∧ v = a5 ∨ i = 6 ∧ v = a6) → Q (.int v) μ) := ⟨fun h => ix_intsT (l := [a0, a1, a2, a3, a4, a5, a6]) h.1 h.2⟩
instance (priority := low - 1) tupD_7 {a0 a1 a2 a3 a4 a5 a6 : D} {i : Int} {μ : Mem} {Q : QM} : Step (rdIx (.tup [a0, a1, a2, a3, a4, a5, a6]) (.int i) μ Q) ((0 ≤ i ∧ i < 7) ∧ (i = 0 → Q a0 μ) ∧ (i = 1 → Q a1 μ) ∧ (i = 2 → Q a2 μ) ∧ (i = 3 → Q a3 μ) ∧ (i = 4 → Q a4 μ) ∧ (i = 5 → Q a5 μ) ∧ (i = 6 → Q a6 μ)) := ⟨fun h => ix_allT (l := [a0, a1, a2, a3, a4, a5, a6]) h.1 h.2⟩
instance (priority := low) tupI_8 {a0 a1 a2 a3 a4 a5 a6 a7 i : Int} {μ : Mem} {Q : QM} : Step (rdIx (.tup [.int a0, .int a1, .int a2, .int a3, .int a4, .int a5, .int a6, .int a7]) (.int i) μ Q) ((0 ≤ i ∧ i < 8) ∧ ∀ v : Int, (i = 0 ∧ v = a0 ∨ i = 1 ∧ v = a1 ∨ i = 2 ∧ v = a2 ∨ i = 3 ∧ v = a3 ∨ i = 4 ∧ v = a4 ∨ i = 5 ∧ v = a5 ∨ i = 6 ∧ v = a6 ∨ i = 7 ∧ v = a7) → Q (.int v) μ) := ⟨fun h => ix_intsT (l := [a0, a1, a2, a3, a4, a5, a6, a7]) h.1 h.2⟩
instance (priority := low - 1) tupD_8 {a0 a1 a2 a3 a4 a5 a6 a7 : D} {i : Int} {μ : Mem} {Q : QM} : Step (rdIx (.tup [a0, a1, a2, a3, a4, a5, a6, a7]) (.int i) μ Q) ((0 ≤ i ∧ i < 8) ∧ (i = 0 → Q a0 μ) ∧ (i = 1 → Q a1 μ) ∧ (i = 2 → Q a2 μ) ∧ (i = 3 → Q a3 μ) ∧ (i = 4 → Q a4 μ) ∧ (i = 5 → Q a5 μ) ∧ (i = 6 → Q a6 μ) ∧ (i = 7 → Q a7 μ)) := ⟨fun h => ix_allT (l := [a0, a1, a2, a3, a4, a5, a6, a7]) h.1 h.2⟩
instance (priority := low) tupI_9 {a0 a1 a2 a3 a4 a5 a6 a7 a8 i : Int} {μ : Mem} {Q : QM} : Step (rdIx (.tup [.int a0, .int a1, .int a2, .int a3, .int a4, .int a5, .int a6, .int a7, .int a8]) (.int i) μ Q) ((0 ≤ i ∧ i < 9) ∧ ∀ v : Int, (i = 0 ∧ v = a0 ∨ i = 1 ∧ v = a1 ∨ i = 2 ∧ v = a2 ∨ i = 3 ∧ v = a3 ∨ i = 4 ∧ v = a4 ∨ i = 5 ∧ v = a5 ∨ i = 6 ∧ v = a6 ∨ i = 7 ∧ v = a7 ∨ i = 8 ∧ v = a8) → Q (.int v) μ) := ⟨fun h => ix_intsT (l := [a0, a1, a2, a3, a4, a5, a6, a7, a8]) h.1 h.2⟩
instance (priority := low - 1) tupD_9 {a0 a1 a2 a3 a4 a5 a6 a7 a8 : D} {i : Int} {μ : Mem} {Q : QM} : Step (rdIx (.tup [a0, a1, a2, a3, a4, a5, a6, a7, a8]) (.int i) μ Q) ((0 ≤ i ∧ i < 9) ∧ (i = 0 → Q a0 μ) ∧ (i = 1 → Q a1 μ) ∧ (i = 2 → Q a2 μ) ∧ (i = 3 → Q a3 μ) ∧ (i = 4 → Q a4 μ) ∧ (i = 5 → Q a5 μ) ∧ (i = 6 → Q a6 μ) ∧ (i = 7 → Q a7 μ) ∧ (i = 8 → Q a8 μ)) := ⟨fun h => ix_allT (l := [a0, a1, a2, a3, a4, a5, a6, a7, a8]) h.1 h.2⟩
instance (priority := low - 1) tupD_10 {a0 a1 a2 a3 a4 a5 a6 a7 a8 a9 : D} {i : Int} {μ : Mem} {Q : QM} : Step (rdIx (.tup [a0, a1, a2, a3, a4, a5, a6, a7, a8, a9]) (.int i) μ Q) ((0 ≤ i ∧ i < 10) ∧ (i = 0 → Q a0 μ) ∧ (i = 1 → Q a1 μ) ∧ (i = 2 → Q a2 μ) ∧ (i = 3 → Q a3 μ) ∧ (i = 4 → Q a4 μ) ∧ (i = 5 → Q a5 μ) ∧ (i = 6 → Q a6 μ) ∧ (i = 7 → Q a7 μ) ∧ (i = 8 → Q a8 μ) ∧ (i = 9 → Q a9 μ)) := ⟨fun h => ix_allT (l := [a0, a1, a2, a3, a4, a5, a6, a7, a8, a9]) h.1 h.2⟩
instance (priority := low - 1) tupD_11 {a0 a1 a2 a3 a4 a5 a6 a7 a8 a9 a10 : D} {i : Int} {μ : Mem} {Q : QM} : Step (rdIx (.tup [a0, a1, a2, a3, a4, a5, a6, a7, a8, a9, a10]) (.int i) μ Q) ((0 ≤ i ∧ i < 11) ∧ (i = 0 → Q a0 μ) ∧ (i = 1 → Q a1 μ) ∧ (i = 2 → Q a2 μ) ∧ (i = 3 → Q a3 μ) ∧ (i = 4 → Q a4 μ) ∧ (i = 5 → Q a5 μ) ∧ (i = 6 → Q a6 μ) ∧ (i = 7 → Q a7 μ) ∧ (i = 8 → Q a8 μ) ∧ (i = 9 → Q a9 μ) ∧ (i = 10 → Q a10 μ)) := ⟨fun h => ix_allT (l := [a0, a1, a2, a3, a4, a5, a6, a7, a8, a9, a10]) h.1 h.2⟩
instance (priority := low - 1) tupD_12 {a0 a1 a2 a3 a4 a5 a6 a7 a8 a9 a10 a11 : D} {i : Int} {μ : Mem} {Q : QM} : Step (rdIx (.tup [a0, a1, a2, a3, a4, a5, a6, a7, a8, a9, a10, a11]) (.int i) μ Q) ((0 ≤ i ∧ i < 12) ∧ (i = 0 → Q a0 μ) ∧ (i = 1 → Q a1 μ) ∧ (i = 2 → Q a2 μ) ∧ (i = 3 → Q a3 μ) ∧ (i = 4 → Q a4 μ) ∧ (i = 5 → Q a5 μ) ∧ (i = 6 → Q a6 μ) ∧ (i = 7 → Q a7 μ) ∧ (i = 8 → Q a8 μ) ∧ (i = 9 → Q a9 μ) ∧ (i = 10 → Q a10 μ) ∧ (i = 11 → Q a11 μ)) := ⟨fun h => ix_allT (l := [a0, a1, a2, a3, a4, a5, a6, a7, a8, a9, a10, a11]) h.1 h.2⟩
instance (priority := low - 1) tupD_13 {a0 a1 a2 a3 a4 a5 a6 a7 a8 a9 a10 a11 a12 : D} {i : Int} {μ : Mem} {Q : QM} : Step (rdIx (.tup [a0, a1, a2, a3, a4, a5, a6, a7, a8, a9, a10, a11, a12]) (.int i) μ Q) ((0 ≤ i ∧ i < 13) ∧ (i = 0 → Q a0 μ) ∧ (i = 1 → Q a1 μ) ∧ (i = 2 → Q a2 μ) ∧ (i = 3 → Q a3 μ) ∧ (i = 4 → Q a4 μ) ∧ (i = 5 → Q a5 μ) ∧ (i = 6 → Q a6 μ) ∧ (i = 7 → Q a7 μ) ∧ (i = 8 → Q a8 μ) ∧ (i = 9 → Q a9 μ) ∧ (i = 10 → Q a10 μ) ∧ (i = 11 → Q a11 μ) ∧ (i = 12 → Q a12 μ)) := ⟨fun h => ix_allT (l := [a0, a1, a2, a3, a4, a5, a6, a7, a8, a9, a10, a11, a12]) h.1 h.2⟩
instance (priority := low - 1) tupD_14 {a0 a1 a2 a3 a4 a5 a6 a7 a8 a9 a10 a11 a12 a13 : D} {i : Int} {μ : Mem} {Q : QM} : Step (rdIx (.tup [a0, a1, a2, a3, a4, a5, a6, a7, a8, a9, a10, a11, a12, a13]) (.int i) μ Q) ((0 ≤ i ∧ i < 14) ∧ (i = 0 → Q a0 μ) ∧ (i = 1 → Q a1 μ) ∧ (i = 2 → Q a2 μ) ∧ (i = 3 → Q a3 μ) ∧ (i = 4 → Q a4 μ) ∧ (i = 5 → Q a5 μ) ∧ (i = 6 → Q a6 μ) ∧ (i = 7 → Q a7 μ) ∧ (i = 8 → Q a8 μ) ∧ (i = 9 → Q a9 μ) ∧ (i = 10 → Q a10 μ) ∧ (i = 11 → Q a11 μ) ∧ (i = 12 → Q a12 μ) ∧ (i = 13 → Q a13 μ)) := ⟨fun h => ix_allT (l := [a0, a1, a2, a3, a4, a5, a6, a7, a8, a9, a10, a11, a12, a13]) h.1 h.2⟩
instance tupcat_0_1 {b0 : D} {μ : Mem} {Q : QM} : Step (rdAdd (.tup []) (.tup [b0]) μ Q) (Q (.tup [b0]) μ) := ⟨fun h => i_addT (i := []) (j := [b0]) (by show 1 ≤ sizeLine; decide) h⟩
instance tupcat_0_2 {b0 b1 : D} {μ : Mem} {Q : QM} : Step (rdAdd (.tup []) (.tup [b0, b1]) μ Q) (Q (.tup [b0, b1]) μ) := ⟨fun h => i_addT (i := []) (j := [b0, b1]) (by show 2 ≤ sizeLine; decide) h⟩
instance tupcat_0_3 {b0 b1 b2 : D} {μ : Mem} {Q : QM} : Step (rdAdd (.tup []) (.tup [b0, b1, b2]) μ Q) (Q (.tup [b0, b1, b2]) μ) := ⟨fun h => i_addT (i := []) (j := [b0, b1, b2]) (by show 3 ≤ sizeLine; decide) h⟩
instance tupcat_0_4 {b0 b1 b2 b3 : D} {μ : Mem} {Q : QM} : Step (rdAdd (.tup []) (.tup [b0, b1, b2, b3]) μ Q) (Q (.tup [b0, b1, b2, b3]) μ) := ⟨fun h => i_addT (i := []) (j := [b0, b1, b2, b3]) (by show 4 ≤ sizeLine; decide) h⟩
instance tupcat_0_5 {b0 b1 b2 b3 b4 : D} {μ : Mem} {Q : QM} : Step (rdAdd (.tup []) (.tup [b0, b1, b2, b3, b4]) μ Q) (Q (.tup [b0, b1, b2, b3, b4]) μ) := ⟨fun h => i_addT (i := []) (j := [b0, b1, b2, b3, b4]) (by show 5 ≤ sizeLine; decide) h⟩
instance tupcat_1_0 {a0 : D} {μ : Mem} {Q : QM} : Step (rdAdd (.tup [a0]) (.tup []) μ Q) (Q (.tup [a0]) μ) := ⟨fun h => i_addT (i := [a0]) (j := []) (by show 1 ≤ sizeLine; decide) h⟩
instance tupcat_1_1 {a0 b0 : D} {μ : Mem} {Q : QM} : Step (rdAdd (.tup [a0]) (.tup [b0]) μ Q) (Q (.tup [a0, b0]) μ) := ⟨fun h => i_addT (i := [a0]) (j := [b0]) (by show 2 ≤ sizeLine; decide) h⟩
instance tupcat_1_2 {a0 b0 b1 : D} {μ : Mem} {Q : QM} : Step (rdAdd (.tup [a0]) (.tup [b0, b1]) μ Q) (Q (.tup [a0, b0, b1]) μ) := ⟨fun h => i_addT (i := [a0]) (j := [b0, b1]) (by show 3 ≤ sizeLine; decide) h⟩
instance tupcat_1_3 {a0 b0 b1 b2 : D} {μ : Mem} {Q : QM} : Step (rdAdd (.tup [a0]) (.tup [b0, b1, b2]) μ Q) (Q (.tup [a0, b0, b1, b2]) μ) := ⟨fun h => i_addT (i := [a0]) (j := [b0, b1, b2]) (by show 4 ≤ sizeLine; decide) h⟩
instance tupcat_1_4 {a0 b0 b1 b2 b3 : D} {μ : Mem} {Q : QM} : Step (rdAdd (.tup [a0]) (.tup [b0, b1, b2, b3]) μ Q) (Q (.tup [a0, b0, b1, b2, b3]) μ) := ⟨fun h => i_addT (i := [a0]) (j := [b0, b1, b2, b3]) (by show 5 ≤ sizeLine; decide) h⟩
instance tupcat_1_5 {a0 b0 b1 b2 b3 b4 : D} {μ : Mem} {Q : QM} : Step (rdAdd (.tup [a0]) (.tup [b0, b1, b2, b3, b4]) μ Q) (Q (.tup [a0, b0, b1, b2, b3, b4]) μ) := ⟨fun h => i_addT (i := [a0]) (j := [b0, b1, b2, b3, b4]) (by show 6 ≤ sizeLine; decide) h⟩
instance tupcat_2_0 {a0 a1 : D} {μ : Mem} {Q : QM} : Step (rdAdd (.tup [a0, a1]) (.tup []) μ Q) (Q (.tup [a0, a1]) μ) := ⟨fun h => i_addT (i := [a0, a1]) (j := []) (by show 2 ≤ sizeLine; decide) h⟩
instance tupcat_2_1 {a0 a1 b0 : D} {μ : Mem} {Q : QM} : Step (rdAdd (.tup [a0, a1]) (.tup [b0]) μ Q) (Q (.tup [a0, a1, b0]) μ) := ⟨fun h => i_addT (i := [a0, a1]) (j := [b0]) (by show 3 ≤ sizeLine; decide) h⟩
instance tupcat_2_2 {a0 a1 b0 b1 : D} {μ : Mem} {Q : QM} : Step (rdAdd (.tup [a0, a1]) (.tup [b0, b1]) μ Q) (Q (.tup [a0, a1, b0, b1]) μ) := ⟨fun h => i_addT (i := [a0, a1]) (j := [b0, b1]) (by show 4 ≤ sizeLine; decide) h⟩
instance tupcat_2_3 {a0 a1 b0 b1 b2 : D} {μ : Mem} {Q : QM} : Step (rdAdd (.tup [a0, a1]) (.tup [b0, b1, b2]) μ Q) (Q (.tup [a0, a1, b0, b1, b2]) μ) := ⟨fun h => i_addT (i := [a0, a1]) (j := [b0, b1, b2]) (by show 5 ≤ sizeLine; decide) h⟩
instance tupcat_2_4 {a0 a1 b0 b1 b2 b3 : D} {μ : Mem} {Q : QM} : Step (rdAdd (.tup [a0, a1]) (.tup [b0, b1, b2, b3]) μ Q) (Q (.tup [a0, a1, b0, b1, b2, b3]) μ) := ⟨fun h => i_addT (i := [a0, a1]) (j := [b0, b1, b2, b3]) (by show 6 ≤ sizeLine; decide) h⟩
instance tupcat_2_5 {a0 a1 b0 b1 b2 b3 b4 : D} {μ : Mem} {Q : QM} : Step (rdAdd (.tup [a0, a1]) (.tup [b0, b1, b2, b3, b4]) μ Q) (Q (.tup [a0, a1, b0, b1, b2, b3, b4]) μ) := ⟨fun h => i_addT (i := [a0, a1]) (j := [b0, b1, b2, b3, b4]) (by show 7 ≤ sizeLine; decide) h⟩
instance tupcat_3_0 {a0 a1 a2 : D} {μ : Mem} {Q : QM} : Step (rdAdd (.tup [a0, a1, a2]) (.tup []) μ Q) (Q (.tup [a0, a1, a2]) μ) := ⟨fun h => i_addT (i := [a0, a1, a2]) (j := []) (by show 3 ≤ sizeLine; decide) h⟩
instance tupcat_3_1 {a0 a1 a2 b0 : D} {μ : Mem} {Q : QM} : Step (rdAdd (.tup [a0, a1, a2]) (.tup [b0]) μ Q) (Q (.tup [a0, a1, a2, b0]) μ) := ⟨fun h => i_addT (i := [a0, a1, a2]) (j := [b0]) (by show 4 ≤ sizeLine; decide) h⟩
instance tupcat_3_2 {a0 a1 a2 b0 b1 : D} {μ : Mem} {Q : QM} : Step (rdAdd (.tup [a0, a1, a2]) (.tup [b0, b1]) μ Q) (Q (.tup [a0, a1, a2, b0, b1]) μ) := ⟨fun h => i_addT (i := [a0, a1, a2]) (j := [b0, b1]) (by show 5 ≤ sizeLine; decide) h⟩
instance tupcat_3_3 {a0 a1 a2 b0 b1 b2 : D} {μ : Mem} {Q : QM} : Step (rdAdd (.tup [a0, a1, a2]) (.tup [b0, b1, b2]) μ Q) (Q (.tup [a0, a1, a2, b0, b1, b2]) μ) := ⟨fun h => i_addT (i := [a0, a1, a2]) (j := [b0, b1, b2]) (by show 6 ≤ sizeLine; decide) h⟩
instance tupcat_3_4 {a0 a1 a2 b0 b1 b2 b3 : D} {μ : Mem} {Q : QM} : Step (rdAdd (.tup [a0, a1, a2]) (.tup [b0, b1, b2, b3]) μ Q) (Q (.tup [a0, a1, a2, b0, b1, b2, b3]) μ) := ⟨fun h => i_addT (i := [a0, a1, a2]) (j := [b0, b1, b2, b3]) (by show 7 ≤ sizeLine; decide) h⟩
instance tupcat_4_0 {a0 a1 a2 a3 : D} {μ : Mem} {Q : QM} : Step (rdAdd (.tup [a0, a1, a2, a3]) (.tup []) μ Q) (Q (.tup [a0, a1, a2, a3]) μ) := ⟨fun h => i_addT (i := [a0, a1, a2, a3]) (j := []) (by show 4 ≤ sizeLine; decide) h⟩
instance tupcat_4_1 {a0 a1 a2 a3 b0 : D} {μ : Mem} {Q : QM} : Step (rdAdd (.tup [a0, a1, a2, a3]) (.tup [b0]) μ Q) (Q (.tup [a0, a1, a2, a3, b0]) μ) := ⟨fun h => i_addT (i := [a0, a1, a2, a3]) (j := [b0]) (by show 5 ≤ sizeLine; decide) h⟩
instance tupcat_4_2 {a0 a1 a2 a3 b0 b1 : D} {μ : Mem} {Q : QM} : Step (rdAdd (.tup [a0, a1, a2, a3]) (.tup [b0, b1]) μ Q) (Q (.tup [a0, a1, a2, a3, b0, b1]) μ) := ⟨fun h => i_addT (i := [a0, a1, a2, a3]) (j := [b0, b1]) (by show 6 ≤ sizeLine; decide) h⟩
instance tupcat_4_3 {a0 a1 a2 a3 b0 b1 b2 : D} {μ : Mem} {Q : QM} : Step (rdAdd (.tup [a0, a1, a2, a3]) (.tup [b0, b1, b2]) μ Q) (Q (.tup [a0, a1, a2, a3, b0, b1, b2]) μ) := ⟨fun h => i_addT (i := [a0, a1, a2, a3]) (j := [b0, b1, b2]) (by show 7 ≤ sizeLine; decide) h⟩
instance tupcat_5_0 {a0 a1 a2 a3 a4 : D} {μ : Mem} {Q : QM} : Step (rdAdd (.tup [a0, a1, a2, a3, a4]) (.tup []) μ Q) (Q (.tup [a0, a1, a2, a3, a4]) μ) := ⟨fun h => i_addT (i := [a0, a1, a2, a3, a4]) (j := []) (by show 5 ≤ sizeLine; decide) h⟩
instance tupcat_5_1 {a0 a1 a2 a3 a4 b0 : D} {μ : Mem} {Q : QM} : Step (rdAdd (.tup [a0, a1, a2, a3, a4]) (.tup [b0]) μ Q) (Q (.tup [a0, a1, a2, a3, a4, b0]) μ) := ⟨fun h => i_addT (i := [a0, a1, a2, a3, a4]) (j := [b0]) (by show 6 ≤ sizeLine; decide) h⟩
instance tupcat_5_2 {a0 a1 a2 a3 a4 b0 b1 : D} {μ : Mem} {Q : QM} : Step (rdAdd (.tup [a0, a1, a2, a3, a4]) (.tup [b0, b1]) μ Q) (Q (.tup [a0, a1, a2, a3, a4, b0, b1]) μ) := ⟨fun h => i_addT (i := [a0, a1, a2, a3, a4]) (j := [b0, b1]) (by show 7 ≤ sizeLine; decide) h⟩
instance lstcat_0_1 {b0 : D} {μ : Mem} {Q : QM} : Step (rdAdd (.lst []) (.lst [b0]) μ Q) (Q (.lst [b0]) μ) := ⟨fun h => i_addL (i := []) (j := [b0]) (by show 1 ≤ sizeLine; decide) h⟩
instance lstcat_0_2 {b0 b1 : D} {μ : Mem} {Q : QM} : Step (rdAdd (.lst []) (.lst [b0, b1]) μ Q) (Q (.lst [b0, b1]) μ) := ⟨fun h => i_addL (i := []) (j := [b0, b1]) (by show 2 ≤ sizeLine; decide) h⟩
instance lstcat_0_3 {b0 b1 b2 : D} {μ : Mem} {Q : QM} : Step (rdAdd (.lst []) (.lst [b0, b1, b2]) μ Q) (Q (.lst [b0, b1, b2]) μ) := ⟨fun h => i_addL (i := []) (j := [b0, b1, b2]) (by show 3 ≤ sizeLine; decide) h⟩
instance lstcat_0_4 {b0 b1 b2 b3 : D} {μ : Mem} {Q : QM} : Step (rdAdd (.lst []) (.lst [b0, b1, b2, b3]) μ Q) (Q (.lst [b0, b1, b2, b3]) μ) := ⟨fun h => i_addL (i := []) (j := [b0, b1, b2, b3]) (by show 4 ≤ sizeLine; decide) h⟩
instance lstcat_0_5 {b0 b1 b2 b3 b4 : D} {μ : Mem} {Q : QM} : Step (rdAdd (.lst []) (.lst [b0, b1, b2, b3, b4]) μ Q) (Q (.lst [b0, b1, b2, b3, b4]) μ) := ⟨fun h => i_addL (i := []) (j := [b0, b1, b2, b3, b4]) (by show 5 ≤ sizeLine; decide) h⟩
instance lstcat_1_0 {a0 : D} {μ : Mem} {Q : QM} : Step (rdAdd (.lst [a0]) (.lst []) μ Q) (Q (.lst [a0]) μ) := ⟨fun h => i_addL (i := [a0]) (j := []) (by show 1 ≤ sizeLine; decide) h⟩
instance lstcat_1_1 {a0 b0 : D} {μ : Mem} {Q : QM} : Step (rdAdd (.lst [a0]) (.lst [b0]) μ Q) (Q (.lst [a0, b0]) μ) := ⟨fun h => i_addL (i := [a0]) (j := [b0]) (by show 2 ≤ sizeLine; decide) h⟩
instance lstcat_1_2 {a0 b0 b1 : D} {μ : Mem} {Q : QM} : Step (rdAdd (.lst [a0]) (.lst [b0, b1]) μ Q) (Q (.lst [a0, b0, b1]) μ) := ⟨fun h => i_addL (i := [a0]) (j := [b0, b1]) (by show 3 ≤ sizeLine; decide) h⟩
instance lstcat_1_3 {a0 b0 b1 b2 : D} {μ : Mem} {Q : QM} : Step (rdAdd (.lst [a0]) (.lst [b0, b1, b2]) μ Q) (Q (.lst [a0, b0, b1, b2]) μ) := ⟨fun h => i_addL (i := [a0]) (j := [b0, b1, b2]) (by show 4 ≤ sizeLine; decide) h⟩
instance lstcat_1_4 {a0 b0 b1 b2 b3 : D} {μ : Mem} {Q : QM} : Step (rdAdd (.lst [a0]) (.lst [b0, b1, b2, b3]) μ Q) (Q (.lst [a0, b0, b1, b2, b3]) μ) := ⟨fun h => i_addL (i := [a0]) (j := [b0, b1, b2, b3]) (by show 5 ≤ sizeLine; decide) h⟩
instance lstcat_1_5 {a0 b0 b1 b2 b3 b4 : D} {μ : Mem} {Q : QM} : Step (rdAdd (.lst [a0]) (.lst [b0, b1, b2, b3, b4]) μ Q) (Q (.lst [a0, b0, b1, b2, b3, b4]) μ) := ⟨fun h => i_addL (i := [a0]) (j := [b0, b1, b2, b3, b4]) (by show 6 ≤ sizeLine; decide) h⟩
instance lstcat_2_0 {a0 a1 : D} {μ : Mem} {Q : QM} : Step (rdAdd (.lst [a0, a1]) (.lst []) μ Q) (Q (.lst [a0, a1]) μ) := ⟨fun h => i_addL (i := [a0, a1]) (j := []) (by show 2 ≤ sizeLine; decide) h⟩
instance lstcat_2_1 {a0 a1 b0 : D} {μ : Mem} {Q : QM} : Step (rdAdd (.lst [a0, a1]) (.lst [b0]) μ Q) (Q (.lst [a0, a1, b0]) μ) := ⟨fun h => i_addL (i := [a0, a1]) (j := [b0]) (by show 3 ≤ sizeLine; decide) h⟩
instance lstcat_2_2 {a0 a1 b0 b1 : D} {μ : Mem} {Q : QM} : Step (rdAdd (.lst [a0, a1]) (.lst [b0, b1]) μ Q) (Q (.lst [a0, a1, b0, b1]) μ) := ⟨fun h => i_addL (i := [a0, a1]) (j := [b0, b1]) (by show 4 ≤ sizeLine; decide) h⟩
instance lstcat_2_3 {a0 a1 b0 b1 b2 : D} {μ : Mem} {Q : QM} : Step (rdAdd (.lst [a0, a1]) (.lst [b0, b1, b2]) μ Q) (Q (.lst [a0, a1, b0, b1, b2]) μ) := ⟨fun h => i_addL (i := [a0, a1]) (j := [b0, b1, b2]) (by show 5 ≤ sizeLine; decide) h⟩
instance lstcat_2_4 {a0 a1 b0 b1 b2 b3 : D} {μ : Mem} {Q : QM} : Step (rdAdd (.lst [a0, a1]) (.lst [b0, b1, b2, b3]) μ Q) (Q (.lst [a0, a1, b0, b1, b2, b3]) μ) := ⟨fun h => i_addL (i := [a0, a1]) (j := [b0, b1, b2, b3]) (by show 6 ≤ sizeLine; decide) h⟩
instance lstcat_2_5 {a0 a1 b0 b1 b2 b3 b4 : D} {μ : Mem} {Q : QM} : Step (rdAdd (.lst [a0, a1]) (.lst [b0, b1, b2, b3, b4]) μ Q) (Q (.lst [a0, a1, b0, b1, b2, b3, b4]) μ) := ⟨fun h => i_addL (i := [a0, a1]) (j := [b0, b1, b2, b3, b4]) (by show 7 ≤ sizeLine; decide) h⟩
instance lstcat_3_0 {a0 a1 a2 : D} {μ : Mem} {Q : QM} : Step (rdAdd (.lst [a0, a1, a2]) (.lst []) μ Q) (Q (.lst [a0, a1, a2]) μ) := ⟨fun h => i_addL (i := [a0, a1, a2]) (j := []) (by show 3 ≤ sizeLine; decide) h⟩
instance lstcat_3_1 {a0 a1 a2 b0 : D} {μ : Mem} {Q : QM} : Step (rdAdd (.lst [a0, a1, a2]) (.lst [b0]) μ Q) (Q (.lst [a0, a1, a2, b0]) μ) := ⟨fun h => i_addL (i := [a0, a1, a2]) (j := [b0]) (by show 4 ≤ sizeLine; decide) h⟩
instance lstcat_3_2 {a0 a1 a2 b0 b1 : D} {μ : Mem} {Q : QM} : Step (rdAdd (.lst [a0, a1, a2]) (.lst [b0, b1]) μ Q) (Q (.lst [a0, a1, a2, b0, b1]) μ) := ⟨fun h => i_addL (i := [a0, a1, a2]) (j := [b0, b1]) (by show 5 ≤ sizeLine; decide) h⟩
instance lstcat_3_3 {a0 a1 a2 b0 b1 b2 : D} {μ : Mem} {Q : QM} : Step (rdAdd (.lst [a0, a1, a2]) (.lst [b0, b1, b2]) μ Q) (Q (.lst [a0, a1, a2, b0, b1, b2]) μ) := ⟨fun h => i_addL (i := [a0, a1, a2]) (j := [b0, b1, b2]) (by show 6 ≤ sizeLine; decide) h⟩
instance lstcat_3_4 {a0 a1 a2 b0 b1 b2 b3 : D} {μ : Mem} {Q : QM} : Step (rdAdd (.lst [a0, a1, a2]) (.lst [b0, b1, b2, b3]) μ Q) (Q (.lst [a0, a1, a2, b0, b1, b2, b3]) μ) := ⟨fun h => i_addL (i := [a0, a1, a2]) (j := [b0, b1, b2, b3]) (by show 7 ≤ sizeLine; decide) h⟩
instance lstcat_4_0 {a0 a1 a2 a3 : D} {μ : Mem} {Q : QM} : Step (rdAdd (.lst [a0, a1, a2, a3]) (.lst []) μ Q) (Q (.lst [a0, a1, a2, a3]) μ) := ⟨fun h => i_addL (i := [a0, a1, a2, a3]) (j := []) (by show 4 ≤ sizeLine; decide) h⟩
instance lstcat_4_1 {a0 a1 a2 a3 b0 : D} {μ : Mem} {Q : QM} : Step (rdAdd (.lst [a0, a1, a2, a3]) (.lst [b0]) μ Q) (Q (.lst [a0, a1, a2, a3, b0]) μ) := ⟨fun h => i_addL (i := [a0, a1, a2, a3]) (j := [b0]) (by show 5 ≤ sizeLine; decide) h⟩
instance lstcat_4_2 {a0 a1 a2 a3 b0 b1 : D} {μ : Mem} {Q : QM} : Step (rdAdd (.lst [a0, a1, a2, a3]) (.lst [b0, b1]) μ Q) (Q (.lst [a0, a1, a2, a3, b0, b1]) μ) := ⟨fun h => i_addL (i := [a0, a1, a2, a3]) (j := [b0, b1]) (by show 6 ≤ sizeLine; decide) h⟩
instance lstcat_4_3 {a0 a1 a2 a3 b0 b1 b2 : D} {μ : Mem} {Q : QM} : Step (rdAdd (.lst [a0, a1, a2, a3]) (.lst [b0, b1, b2]) μ Q) (Q (.lst [a0, a1, a2, a3, b0, b1, b2]) μ) := ⟨fun h => i_addL (i := [a0, a1, a2, a3]) (j := [b0, b1, b2]) (by show 7 ≤ sizeLine; decide) h⟩
instance lstcat_5_0 {a0 a1 a2 a3 a4 : D} {μ : Mem} {Q : QM} : Step (rdAdd (.lst [a0, a1, a2, a3, a4]) (.lst []) μ Q) (Q (.lst [a0, a1, a2, a3, a4]) μ) := ⟨fun h => i_addL (i := [a0, a1, a2, a3, a4]) (j := []) (by show 5 ≤ sizeLine; decide) h⟩
instance lstcat_5_1 {a0 a1 a2 a3 a4 b0 : D} {μ : Mem} {Q : QM} : Step (rdAdd (.lst [a0, a1, a2, a3, a4]) (.lst [b0]) μ Q) (Q (.lst [a0, a1, a2, a3, a4, b0]) μ) := ⟨fun h => i_addL (i := [a0, a1, a2, a3, a4]) (j := [b0]) (by show 6 ≤ sizeLine; decide) h⟩
instance lstcat_5_2 {a0 a1 a2 a3 a4 b0 b1 : D} {μ : Mem} {Q : QM} : Step (rdAdd (.lst [a0, a1, a2, a3, a4]) (.lst [b0, b1]) μ Q) (Q (.lst [a0, a1, a2, a3, a4, b0, b1]) μ) := ⟨fun h => i_addL (i := [a0, a1, a2, a3, a4]) (j := [b0, b1]) (by show 7 ≤ sizeLine; decide) h⟩
end Dl
namespace Dl
open PySem PySem.Spec PyProof.Rows L2
variable {X : Cx} {K : PySem.W.Frag} {Z : Bs}
theorem Fresh.set {B : Bs} {S : Hp} {μ : Mem} {H : Hp} {σ : L2.St} {δ : Ss} {p q : Addr} {o : HO} {n : MO} {i : Nat} (f : Fresh B S μ H σ δ q o) (hne : q ≠ p) : Fresh B S μ H (σ.set i (some (.ref p))) (δ.set i (.own n)) q o :=
  ⟨f.b, f.s, f.m, f.h, fun k n' e z => by
    by_cases hk : i = k
    · subst hk
      by_cases hl : i < σ.length
      · rw [List.getElem?_set_self hl] at z
        cases z
        exact hne rfl
      · rw [List.getElem?_eq_none (by rw [List.length_set]; omega)] at z
        cases z
    · rw [List.getElem?_set_ne hk] at e z
      exact f.d k n' e z, f.f⟩
/-- a, b, c = x, y, z: all of them lists that are then changed -/
def dPar3F (i j l : Nat) (df dg dh : DF) : DS := fun DD δ μ => df δ μ fun m δ1 μ1 => dg δ1 μ1 fun n δ2 μ2 => dh δ2 μ2 fun o δ3 μ3 => DD.nx (((δ3.set i (.own m)).set j (.own n)).set l (.own o)) μ3
/-! ### reversed -/
def RevI (d : D) (R : List D → Prop) : Prop := ∃ l, (d = .tup l ∨ d = .lst l) ∧ R l.reverse
def diRev (de : DE) : DI := fun δ μ Q => de δ μ fun d δ1 μ1 => RevI d fun l => Q l (fun _ => True) δ1 μ1
/-! ### texts with values in them -/
def FmtI (d : D) (R : D → Prop) : Prop := (∃ y : Str, d = .str y ∧ y.length ≤ sizeLine ∧ R (.str y)) ∨ ∃ i : Int, d = .int i ∧ i.natAbs.log2 < 1920 ∧ R (.str (toString i))
def dFmt (de : DE) : DE := fun δ μ Q => de δ μ fun d δ1 μ1 => FmtI d fun z => Q z δ1 μ1
def StrI (d : D) (R : Str → Prop) : Prop := ∃ y : Str, d = .str y ∧ R y
def dJs : List DE → Str → Ss → Mem → (Str → Ss → Mem → Prop) → Prop
  | [], acc, δ, μ, Q => Q acc δ μ
  | d :: ds, acc, δ, μ, Q => d δ μ fun x δ1 μ1 => StrI x fun y => (acc ++ y).length ≤ sizeLine ∧ dJs ds (acc ++ y) δ1 μ1 Q
inductive PDJ (K : PySem.W.Frag) (Z : Bs) (X : Cx) : List Expr → List TE → List DE → Prop where
  | nil : PDJ K Z X [] [] []
  | cons {e : Expr} {t : TE} {d : DE} {es : List Expr} {ts : List TE} {ds : List DE} (h : PD K Z X e t d) (r : PDJ K Z X es ts ds) : PDJ K Z X (e :: es) (t :: ts) (d :: ds)
theorem PDJ.p {es : List Expr} {ts : List TE} {ds : List DE} (h : PDJ K Z X es ts ds) : PJ X es ts := by
  induction h with
  | nil => exact .nil
  | cons h _ ih => exact .cons h.p ih
theorem PDJ.s {es : List Expr} {ts : List TE} {ds : List DE} (h : PDJ K Z X es ts ds) : ∀ (acc : Str) (B : Bs) (_ : SameB Z B) (S : Hp) (μ : Mem) (H : Hp) (σ : L2.St) (δ : Ss) (Q : Str → Hp → Prop) (QD : Str → Ss → Mem → Prop), Rel K B S μ H σ δ →
    (∀ S' μ' H' δ' z, Ex S S' → Rel K B S' μ' H' σ δ' → QD z δ' μ' → Q z H') → dJs ds acc δ μ QD → tJs ts acc σ H Q := by
  induction h with
  | nil => intro acc B hB S μ H σ δ Q QD rl k q; exact k S μ H δ acc (Ex.refl S) rl q
  | cons h _ ih =>
    intro acc B hB S μ H σ δ Q QD rl k q
    refine h.s B hB S μ H σ δ _ _ rl (fun S1 μ1 H1 δ1 v d e1 r1 hv q1 => ?_) q
    obtain ⟨y, rfl, hz, q1⟩ := q1
    exact ⟨y, hv, hz, ih (acc ++ y) B hB S1 μ1 H1 σ δ1 Q QD r1 (fun S2 μ2 H2 δ2 z e2 r2 q2 => k S2 μ2 H2 δ2 z (e1.trans e2) r2 q2) q1⟩
def dJoined (ds : List DE) : DE := fun δ μ Q => dJs ds Str.empty δ μ fun out δ1 μ1 => Q (.str out) δ1 μ1
theorem empty_app (z : Str) : Str.empty ++ z = z := TL.ext_tl (by rw [TL.tl_append]; rfl)
/-! ### methods of texts -/
section
variable {o e : Expr} {es : List Expr} {apos cpos : Pos} {to : TE} {ta : TA} {do_ : DE} {da : DA} {name : Str} {id : String} {r : V → List V → Hp → VK → Prop} {dr : D → List D → Mem → QM → Prop}
def dBMs0 (r : D → List D → Mem → QM → Prop) (do_ : DE) : DE := fun δ μ Q => do_ δ μ fun x δ1 μ1 => isStr x ∧ r x [] μ1 fun d μ2 => Q d δ1 μ2
end
def rdSplit : D → List D → Mem → QM → Prop := fun x xs μ Q => ∃ a b : Str, x = .str a ∧ xs = [.str b] ∧ (b.length == 0) = false ∧ a.length + 2 ≤ sizeLine ∧ Q (.lst ((Txt.split a b).map .str)) μ
def rdFind : D → List D → Mem → QM → Prop := fun x xs μ Q => ∃ a b : Str, x = .str a ∧ xs = [.str b] ∧ Q (.int (Txt.find a b)) μ
def rdRfind : D → List D → Mem → QM → Prop := fun x xs μ Q => ∃ a b : Str, x = .str a ∧ xs = [.str b] ∧ Q (.int (Txt.rfind a b)) μ
def rdUpper : D → List D → Mem → QM → Prop := fun x xs μ Q => ∃ a : Str, x = .str a ∧ xs = [] ∧ a.length ≤ 5592405 ∧ Q (.str (Txt.upper a)) μ
/-! ### range with a step -/
def rangeC (lo c : Int) (n : Nat) : List D := (List.range n).map fun i => D.int (lo + (i : Nat) * c)
def diRng3 (da : DA) : DI := fun δ μ Q => da δ μ fun xs δ1 μ1 => ∃ (i j c : Int) (n : Nat), xs = [.int i, .int j, .int c] ∧ RgC i j c n ∧ Q (rangeC i c n) (fun _ => True) δ1 μ1
/-! ### a text, or else -/
def dOrS (da db : DE) : DE := fun δ μ Q => da δ μ fun x δ1 μ1 => StrI x fun z => z.length ≤ sizeLine ∧ if ((z.length : Int) != 0) = true then Q x δ1 μ1 else db δ1 μ1 Q
/-! ### x *= y -/
def dAugM (i : Nat) (de : DE) : DS := fun DD δ μ => ∃ n, δ[i]? = some (.val (.int n)) ∧ de δ μ fun d δ1 μ1 => ∃ m, d = .int m ∧ CMulW n m ∧ DD.nx (δ1.set i (.val (.int (n * m)))) μ1
variable {Q : QE} {QM' : QM}
variable {δ : Ss} {μ : Mem} {nx : Ss → Mem → Prop} {rt : QM} {bk ct : Ss → Mem → Prop}
instance st_par3F {i j l : Nat} {df dg dh : DF} : Step (dPar3F i j l df dg dh ⟨nx, rt, bk, ct⟩ δ μ) (df δ μ fun m δ1 μ1 => dg δ1 μ1 fun n δ2 μ2 => dh δ2 μ2 fun o δ3 μ3 => nxSet (nxSet (nxSet nx l (.own o)) j (.own n)) i (.own m) δ3 μ3) := ⟨id⟩
instance st_orS {da db : DE} : Step (dOrS da db δ μ Q) (da δ μ fun x δ1 μ1 => StrI x fun z => z.length ≤ sizeLine ∧ if ((z.length : Int) != 0) = true then Q x δ1 μ1 else db δ1 μ1 Q) := ⟨id⟩
instance st_irev {de : DE} {R : List D → (Mem → Prop) → Ss → Mem → Prop} : Step (diRev de δ μ R) (de δ μ fun d δ1 μ1 => RevI d fun l => R l (fun _ => True) δ1 μ1) := ⟨id⟩
instance st_irevT {l : List D} {R : List D → Prop} : Step (RevI (.tup l) R) (R l.reverse) := ⟨fun h => ⟨l, .inl rfl, h⟩⟩
instance st_irevL {l : List D} {R : List D → Prop} : Step (RevI (.lst l) R) (R l.reverse) := ⟨fun h => ⟨l, .inr rfl, h⟩⟩
instance st_fmt {de : DE} : Step (dFmt de δ μ Q) (de δ μ fun d δ1 μ1 => FmtI d fun z => Q z δ1 μ1) := ⟨id⟩
instance st_fmtS {z : Str} {R : D → Prop} : Step (FmtI (.str z) R) (z.length ≤ sizeLine ∧ R (.str z)) := ⟨fun h => .inl ⟨z, rfl, h⟩⟩
instance st_fmtI {z : Int} {R : D → Prop} : Step (FmtI (.int z) R) (z.natAbs.log2 < 1920 ∧ R (.str (toString z))) := ⟨fun h => .inr ⟨z, rfl, h⟩⟩
instance st_joined {ds : List DE} : Step (dJoined ds δ μ Q) (dJs ds Str.empty δ μ fun out δ1 μ1 => Q (.str out) δ1 μ1) := ⟨id⟩
instance st_js0 {acc : Str} {R : Str → Ss → Mem → Prop} : Step (dJs [] acc δ μ R) (R acc δ μ) := ⟨id⟩
instance st_js1 {acc : Str} {d : DE} {ds : List DE} {R : Str → Ss → Mem → Prop} : Step (dJs (d :: ds) acc δ μ R) (d δ μ fun x δ1 μ1 => StrI x fun y => (acc ++ y).length ≤ sizeLine ∧ dJs ds (acc ++ y) δ1 μ1 R) := ⟨id⟩
instance st_js2 {z : Str} {P : Str → Prop} : Step (StrI (.str z) P) (P z) := ⟨fun h => ⟨z, rfl, h⟩⟩
instance st_BMs0 {r : D → List D → Mem → QM → Prop} {do_ : DE} : Step (dBMs0 r do_ δ μ Q) (do_ δ μ fun x δ1 μ1 => isStr x ∧ r x [] μ1 fun d μ2 => Q d δ1 μ2) := ⟨id⟩
instance st_split {a b : Str} : Step (rdSplit (.str a) [.str b] μ QM') ((b.length == 0) = false ∧ a.length + 2 ≤ sizeLine ∧ QM' (.lst ((Txt.split a b).map .str)) μ) := ⟨fun h => ⟨a, b, rfl, rfl, h⟩⟩
instance st_find {a b : Str} : Step (rdFind (.str a) [.str b] μ QM') (QM' (.int (Txt.find a b)) μ) := ⟨fun h => ⟨a, b, rfl, rfl, h⟩⟩
instance st_rfind {a b : Str} : Step (rdRfind (.str a) [.str b] μ QM') (QM' (.int (Txt.rfind a b)) μ) := ⟨fun h => ⟨a, b, rfl, rfl, h⟩⟩
instance st_upper {a : Str} : Step (rdUpper (.str a) [] μ QM') (a.length ≤ 5592405 ∧ QM' (.str (Txt.upper a)) μ) := ⟨fun h => ⟨a, rfl, rfl, h⟩⟩
instance st_rng3 {da : DA} {R : List D → (Mem → Prop) → Ss → Mem → Prop} : Step (diRng3 da δ μ R) (da δ μ fun xs δ1 μ1 => ∃ (i j c : Int) (n : Nat), xs = [.int i, .int j, .int c] ∧ RgC i j c n ∧ R (rangeC i c n) (fun _ => True) δ1 μ1) := ⟨id⟩
instance st_augM {i : Nat} {de : DE} : Step (dAugM i de ⟨nx, rt, bk, ct⟩ δ μ) (∃ n, δ[i]? = some (.val (.int n)) ∧ de δ μ fun d δ1 μ1 => ∃ m, d = .int m ∧ CMulW n m ∧ nxSet nx i (.val (.int (n * m))) δ1 μ1) := ⟨id⟩
end Dl
namespace Dl
open PySem PySem.Spec PyProof.Rows L2
variable {X : Cx} {K : PySem.W.Frag} {Z : Bs}
/-! ### zip of a list or a tuple and a list or a tuple -/
def ItK (t : Bool) (h : Heap) (it a : Addr) (i : Nat) : Prop := if t = true then h.IsTupleIter it a i else h.IsListIter it a i
theorem ItK.obj {t : Bool} {h : Heap} {it a : Addr} {i : Nat} (x : ItK t h it a i) : ∃ o, h.get? it = some o ∧ ∀ v, o.data ≠ .cell v := by
  cases t <;> (obtain ⟨o, e, _, d⟩ := x; exact ⟨o, e, fun v q => by rw [d] at q; cases q⟩)
def zst (t u : Bool) (a b z TI TO i1 i2 : Addr) : Nat → Heap → Prop := fun i h => IsZip h z TI TO .none ∧ IsTupOf2 h TI (.ref i1) (.ref i2) ∧ (∃ x y, IsTupOf2 h TO x y) ∧ ItK t h i1 a i ∧ ItK u h i2 b i
theorem in5 {z TI TO i1 i2 c : Addr} (h : c ∈ [z, TI, TO, i1, i2]) : c = z ∨ c = TI ∨ c = TO ∨ c = i1 ∨ c = i2 := by simpa using h
theorem zst.at {t u : Bool} {a b z TI TO i1 i2 : Addr} {i : Nat} {h : Heap} (st : zst t u a b z TI TO i1 i2 i h) : ∀ c ∈ [z, TI, TO, i1, i2], ∃ o, h.get? c = some o ∧ ∀ v, o.data ≠ .cell v := fun c hc => by
  obtain ⟨hz, hTI, ⟨x, y, hTO⟩, h1, h2⟩ := st
  rcases in5 hc with rfl | rfl | rfl | rfl | rfl
  · exact ⟨_, hz, fun v q => nomatch q⟩
  · exact ⟨_, hTI, fun v q => nomatch q⟩
  · exact ⟨_, hTO, fun v q => nomatch q⟩
  · exact h1.obj
  · exact h2.obj
/-- a list, of the memory or not, or a tuple -/
def SeqI (d : D) (μ : Mem) (R : List D → (Mem → Prop) → Prop) : Prop := (∃ l, (d = .tup l ∨ d = .ktp l) ∧ R l fun _ => True) ∨ WkL d μ R
def ZipM (ds : List D) (μ : Mem) (R : List D → (Mem → Prop) → Prop) : Prop := ∃ d e, ds = [d, e] ∧ SeqI d μ fun l G => SeqI e μ fun m G' => R (zipD l m) (fun μ => G μ ∧ G' μ)
def diZipM (da : DA) : DI := fun δ μ Q => da δ μ fun ds δ1 μ1 => ZipM ds μ1 fun l G => Q l G δ1 μ1
/-! ### int(text) -/
variable {δ : Ss} {μ : Mem} {nx : Ss → Mem → Prop} {rt : QM} {bk ct : Ss → Mem → Prop} {Q : QE} {QM' : QM}
instance st_zipM {da : DA} {R : List D → (Mem → Prop) → Ss → Mem → Prop} : Step (diZipM da δ μ R) (da δ μ fun ds δ1 μ1 => ZipM ds μ1 fun l G => R l G δ1 μ1) := ⟨id⟩
instance st_zipMTT {l m : List D} {R : List D → (Mem → Prop) → Prop} : Step (ZipM [.tup l, .tup m] μ R) (R (zipD l m) (fun _ => True)) := ⟨fun h => ⟨_, _, rfl, .inl ⟨l, .inl rfl, .inl ⟨m, .inl rfl, by show R (zipD l m) (fun _ => True ∧ True); rw [tt_and]; exact h⟩⟩⟩⟩
instance st_zipMLT {l m : List D} {R : List D → (Mem → Prop) → Prop} : Step (ZipM [.lst l, .tup m] μ R) (R (zipD l m) (fun _ => True)) := ⟨fun h => ⟨_, _, rfl, .inr (.inl ⟨l, .inl rfl, .inl ⟨m, .inl rfl, by show R (zipD l m) (fun _ => True ∧ True); rw [tt_and]; exact h⟩⟩)⟩⟩
instance st_zipMTL {l m : List D} {R : List D → (Mem → Prop) → Prop} : Step (ZipM [.tup l, .lst m] μ R) (R (zipD l m) (fun _ => True)) := ⟨fun h => ⟨_, _, rfl, .inl ⟨l, .inl rfl, .inr (.inl ⟨m, .inl rfl, by show R (zipD l m) (fun _ => True ∧ True); rw [tt_and]; exact h⟩)⟩⟩⟩
instance st_zipMLL {l m : List D} {R : List D → (Mem → Prop) → Prop} : Step (ZipM [.lst l, .lst m] μ R) (R (zipD l m) (fun _ => True)) := ⟨fun h => ⟨_, _, rfl, .inr (.inl ⟨l, .inl rfl, .inr (.inl ⟨m, .inl rfl, by show R (zipD l m) (fun _ => True ∧ True); rw [tt_and]; exact h⟩)⟩)⟩⟩
instance st_zipMKT {l m : List D} {R : List D → (Mem → Prop) → Prop} : Step (ZipM [.ktp l, .tup m] μ R) (R (zipD l m) (fun _ => True)) := ⟨fun h => ⟨_, _, rfl, .inl ⟨l, .inr rfl, .inl ⟨m, .inl rfl, by show R (zipD l m) (fun _ => True ∧ True); rw [tt_and]; exact h⟩⟩⟩⟩
instance st_zipMKL {l m : List D} {R : List D → (Mem → Prop) → Prop} : Step (ZipM [.ktp l, .lst m] μ R) (R (zipD l m) (fun _ => True)) := ⟨fun h => ⟨_, _, rfl, .inl ⟨l, .inr rfl, .inr (.inl ⟨m, .inl rfl, by show R (zipD l m) (fun _ => True ∧ True); rw [tt_and]; exact h⟩)⟩⟩⟩
theorem js_empty {d : DE} {ds : List DE} {R : Str → Ss → Mem → Prop} (h : d δ μ fun x δ1 μ1 => StrI x fun y => y.length ≤ sizeLine ∧ dJs ds y δ1 μ1 R) : dJs (d :: ds) Str.empty δ μ R := by
  show d δ μ fun x δ1 μ1 => StrI x fun y => (Str.empty ++ y).length ≤ sizeLine ∧ dJs ds (Str.empty ++ y) δ1 μ1 R
  simp only [empty_app]
  exact h
instance (priority := high) st_js1e {d : DE} {ds : List DE} {R : Str → Ss → Mem → Prop} : Step (dJs (d :: ds) Str.empty δ μ R) (d δ μ fun x δ1 μ1 => StrI x fun y => y.length ≤ sizeLine ∧ dJs ds y δ1 μ1 R) := ⟨js_empty⟩
end Dl
namespace Dl
open PySem PySem.Spec PyProof.Rows L2
variable {X : Cx} {K : PySem.W.Frag} {Z : Bs}
/-! ### a fresh object becomes a cell of the memory -/
theorem Rel.cellF {B : Bs} {S : Hp} {μ : Mem} {H : Hp} {σ : L2.St} {δ : Ss} {p : Addr} {o : HO} {m : MO} (r : Rel K B S μ H σ δ) (f : Fresh B S μ H σ δ p o) (h : RepM K S m o) : Rel K B S (updM μ p m) H σ δ := by
  refine ⟨⟨r.r3.ex, fun a n e => ?_, r.r3.tb.m (oldX_some f.h h.nx)⟩, ⟨r.gr.ex, r.gr.st, r.gr.kp, fun a n e => ?_, r.gr.th⟩, r.lo, fun i s e => ?_, r.dj, fun q n e => ?_, r.fd⟩
  · by_cases ha : a = p
    · subst ha
      rw [updM_same] at e
      cases e
      exact ⟨f.s, o, f.h, h⟩
    · rw [updM_ne ha] at e
      exact r.r3.mu a n e
  · by_cases ha : a = p
    · subst ha
      exact .inr f.b
    · rw [updM_ne ha] at e
      exact r.gr.me a n e
  · obtain ⟨x, e1, h1⟩ := r.sl i s e
    refine ⟨x, e1, ?_⟩
    cases s with
    | no => trivial
    | val d => exact h1
    | own n =>
      obtain ⟨q, u, e2, g1, g2, g3, g4, g5⟩ := h1
      have ne : q ≠ p := fun z => f.d i n e (by rw [e1, e2, z])
      exact ⟨q, u, e2, g1, g2, by rw [updM_ne ne]; exact g3, g4, g5⟩
  · obtain ⟨u, g1, g2, g3, g4, g5⟩ := r.fr q n e
    have ne : q ≠ p := fun z => by rw [z, f.f] at e; cases e
    exact ⟨u, g1, g2, by rw [updM_ne ne]; exact g3, g4, g5⟩
def dCell (df : DF) : DE := fun δ μ Q => df δ μ fun m δ1 μ1 => ∀ p, μ1 p = none → Q (.ref p) δ1 (updM μ1 p m)
theorem simCell {te : TE} {df : DF} (h : SimF K Z te df) : SimE K Z te (dCell df) := fun B hB S μ H σ δ Q QD rl k q => by
  refine h B hB S μ H σ δ _ _ rl (fun S1 μ1 H1 δ1 p o m e1 r1 f hm q1 => ?_) q
  exact k S1 _ H1 δ1 _ (.ref p) e1 (r1.cellF f hm) rfl (q1 p f.m)
/-- y = [..], a cell -/
theorem s_lcM {i : Nat} {y : Str} {py : Pos} {elt tg iter : Expr} {ifs : List Expr} {scope : Scope} {own : List (Str × Nat)} {pos spos : Pos} {wi : TI} {g : TG} {tt : TT} {te : TE} {di : DI} {dg : DG} {dt : DT} {de : DE} (hc : X.calm = true) (hN : X.N.Nodup) (ho : GOwn g (own.map (·.2))) (hy : X.N[i]? = some y) (hyl : X.env.scope.names.lookup y = some .local)
    (hsw : swapsWith (.ListComp elt [⟨tg, iter, ifs, 0⟩] scope pos) (some (.Name y py)) spos.line X.env = pure true) (hi : PDI K Z X tg iter wi di) (ok : BlkOk X.N X.env.scope scope own)
    (hg : ∀ (s : Shared) (H : Hp) (C : Addr) (cl : List (Str × Addr)) (fp : List Addr), PDG K Z (X.blk s H scope (compEnvC scope cl C X.env) fp) tg g dg) (ht : ∀ (s : Shared) (H : Hp) (C : Addr) (cl : List (Str × Addr)) (fp : List Addr), PDTs K Z (X.blk s H scope (compEnvC scope cl C X.env) fp) ifs tt dt)
    (he : ∀ (s : Shared) (H : Hp) (C : Addr) (cl : List (Str × Addr)) (fp : List Addr), PD K Z (X.blk s H scope (compEnvC scope cl C X.env) fp) elt te de) (hs : ∀ x, foldedSetIterable iter X.env x = pure x := by intro _; rfl) :
    PDS K Z X (.Assign [.Name y py] (.ListComp elt [⟨tg, iter, ifs, 0⟩] scope pos) spos) (tAsg (tLc wi g tt te (own.map (·.2))) (gName i)) (dSet i (dCell (fLc di dg dt de (own.map (·.2))))) :=
  ⟨ps_setLc hc hN hy hyl hsw hi.p ok (fun s H C cl fp => (hg s H C cl fp).p) (fun s H C cl fp => (ht s H C cl fp).p) (fun s H C cl fp => (he s H C cl fp).p) hs, by
    let s0 : Shared := X.s_0
    exact simAsg (simCell (simFLc hi.s ho (hg s0 X.H_0 0 [] []).s (ht s0 X.H_0 0 [] []).s (he s0 X.H_0 0 [] []).s)) simGName⟩
/-! ### a list so often, two lists, a part of a list: fresh -/
def fRep (da db : DE) : DF := fun δ μ Q => da δ μ fun x δ1 μ1 => db δ1 μ1 fun y δ2 μ2 => ∃ l n, x = .lst l ∧ y = .int n ∧ 0 ≤ n ∧ n ≤ 10000 ∧ l.length * n.toNat ≤ sizeLine ∧ Q (.lst (List.replicate n.toNat l).flatten) δ2 μ2
/-- a list of the memory or a frozen one -/
def lstM (μ : Mem) : D → Option (List D)
  | .lst l => some l
  | .ref p => match μ p with
    | some (.lst l) => some l
    | _ => none
  | _ => none
def fCat (da db : DE) : DF := fun δ μ Q => da δ μ fun x δ1 μ1 => db δ1 μ1 fun y δ2 μ2 => ∃ l m, lstM μ2 x = some l ∧ lstM μ2 y = some m ∧ l.length + m.length ≤ sizeLine ∧ Q (.lst (l ++ m)) δ2 μ2
def fSl (de : DE) (dl dh : DO) : DF := fun δ μ Q => de δ μ fun x δ1 μ1 => dl δ1 μ1 fun lo δ2 μ2 => dh δ2 μ2 fun hi δ3 μ3 => ∃ l, (∀ m, x ≠ .tup m) ∧ seqOf μ3 x = some l ∧ Q (.lst (cutD l lo hi)) δ3 μ3
variable {δ : Ss} {μ : Mem} {nx : Ss → Mem → Prop} {rt : QM} {bk ct : Ss → Mem → Prop} {Q : QE} {QM' : QM} {QF : MO → Ss → Mem → Prop}
instance st_cell {df : DF} : Step (dCell df δ μ Q) (df δ μ fun m δ1 μ1 => ∀ p, μ1 p = none → Q (.ref p) δ1 (updM μ1 p m)) := ⟨id⟩
instance st_fRep {da db : DE} : Step (fRep da db δ μ QF) (da δ μ fun x δ1 μ1 => db δ1 μ1 fun y δ2 μ2 => ∃ l n, x = .lst l ∧ y = .int n ∧ 0 ≤ n ∧ n ≤ 10000 ∧ l.length * n.toNat ≤ sizeLine ∧ QF (.lst (List.replicate n.toNat l).flatten) δ2 μ2) := ⟨id⟩
instance st_fCat {da db : DE} : Step (fCat da db δ μ QF) (da δ μ fun x δ1 μ1 => db δ1 μ1 fun y δ2 μ2 => ∃ l m, lstM μ2 x = some l ∧ lstM μ2 y = some m ∧ l.length + m.length ≤ sizeLine ∧ QF (.lst (l ++ m)) δ2 μ2) := ⟨id⟩
instance st_fSl {de : DE} {dl dh : DO} : Step (fSl de dl dh δ μ QF) (de δ μ fun x δ1 μ1 => dl δ1 μ1 fun lo δ2 μ2 => dh δ2 μ2 fun hi δ3 μ3 => ∃ l, (∀ m, x ≠ .tup m) ∧ seqOf μ3 x = some l ∧ QF (.lst (cutD l lo hi)) δ3 μ3) := ⟨id⟩
end Dl
namespace Dl
open PySem PySem.Spec PyProof.Rows L2
variable {X : Cx} {K : PySem.W.Frag} {Z : Bs}
/-! ### x[lo::2] of a list -/
def pickB (n : Nat) (lo : Option Int) : List Nat := sliceRange (sliceBounds lo none (some 2) n).1 (sliceBounds lo none (some 2) n).2.1 (sliceBounds lo none (some 2) n).2.2
def pick2 {α : Type} (l : List α) (lo : Option Int) : List α := (pickB l.length lo).filterMap (l[·]?)
def dSl2 (de : DE) (dl : DO) : DE := fun δ μ Q => de δ μ fun x δ1 μ1 => dl δ1 μ1 fun o δ2 μ2 => ∃ l, (∀ m, x ≠ .tup m) ∧ seqOf μ2 x = some l ∧ Q (.lst (pick2 l o)) δ2 μ2
/-- every second one -/
def evL {α : Type} : List α → List α
  | [] => []
  | [a] => [a]
  | a :: _ :: l => a :: evL l
theorem evL_range {α : Type} : ∀ l : List α, (List.range ((l.length + 1) / 2)).filterMap (fun i => l[2 * i]?) = evL l
  | [] => by simp [evL]
  | [a] => by simp [evL]
  | a :: b :: l => by
    have e : ((a :: b :: l).length + 1) / 2 = (l.length + 1) / 2 + 1 := by simp only [List.length_cons]; omega
    rw [e, List.range_succ_eq_map, List.filterMap_cons_some (f := fun i => (a :: b :: l)[2 * i]?) (b := a) rfl, List.filterMap_map]
    show a :: _ = a :: evL l
    rw [← evL_range l]
    congr 1
theorem pick2_0 {α : Type} (l : List α) : pick2 l none = evL l := by
  rw [← evL_range l]
  unfold pick2 pickB
  have e : sliceRange (sliceBounds none none (some 2) l.length).1 (sliceBounds none none (some 2) l.length).2.1 (sliceBounds none none (some 2) l.length).2.2 = (List.range ((l.length + 1) / 2)).map fun i => 2 * i := by
    show sliceRange 0 (l.length : Int) 2 = _
    unfold sliceRange
    have e1 : (if (2 : Int) > 0 then (if (0 : Int) < l.length then ((l.length : Int) - 0 + 2 - 1) / 2 else 0) else (if (0 : Int) > l.length then (0 - (l.length : Int) - 2 - 1) / (-2) else 0)).toNat = (l.length + 1) / 2 := by
      rw [if_pos (by decide)]
      split <;> omega
    dsimp only
    rw [e1]
    refine List.map_congr_left fun i _ => ?_
    omega
  rw [e, List.filterMap_map]
  rfl
theorem pick2_1 {α : Type} (l : List α) : pick2 l (some 1) = evL (l.drop 1) := by
  cases l with
  | nil => rfl
  | cons a l =>
    show _ = evL l
    rw [← evL_range l]
    unfold pick2 pickB
    have e : sliceRange (sliceBounds (some 1) none (some 2) (a :: l).length).1 (sliceBounds (some 1) none (some 2) (a :: l).length).2.1 (sliceBounds (some 1) none (some 2) (a :: l).length).2.2 = (List.range ((l.length + 1) / 2)).map fun i => 2 * i + 1 := by
      have e0 : (sliceBounds (some 1) none (some 2) (a :: l).length) = (1, ((l.length + 1 : Nat) : Int), 2) := by
        show (max 0 (min 1 (((a :: l).length : Nat) : Int)), (((a :: l).length : Nat) : Int), (2 : Int)) = _
        rw [List.length_cons]
        refine Prod.ext ?_ rfl
        show max 0 (min 1 (((l.length + 1 : Nat)) : Int)) = 1
        omega
      rw [e0]
      show sliceRange 1 ((l.length + 1 : Nat) : Int) 2 = _
      unfold sliceRange
      have e1 : (if (2 : Int) > 0 then (if (1 : Int) < ((l.length + 1 : Nat) : Int) then (((l.length + 1 : Nat) : Int) - 1 + 2 - 1) / 2 else 0) else (if (1 : Int) > ((l.length + 1 : Nat) : Int) then (1 - ((l.length + 1 : Nat) : Int) - 2 - 1) / (-2) else 0)).toNat = (l.length + 1) / 2 := by
        rw [if_pos (by decide)]
        split <;> omega
      dsimp only
      rw [e1]
      refine List.map_congr_left fun i _ => ?_
      omega
    rw [e, List.filterMap_map]
    rfl
variable {δ : Ss} {μ : Mem} {nx : Ss → Mem → Prop} {rt : QM} {bk ct : Ss → Mem → Prop} {Q : QE} {QM' : QM}
def Sl2 (x : D) (o : Option Int) (μ : Mem) (R : D → Prop) : Prop := ∃ l, (∀ m, x ≠ .tup m) ∧ seqOf μ x = some l ∧ R (.lst (pick2 l o))
instance st_sl2 {de : DE} {dl : DO} : Step (dSl2 de dl δ μ Q) (de δ μ fun x δ1 μ1 => dl δ1 μ1 fun o δ2 μ2 => Sl2 x o μ2 fun d => Q d δ2 μ2) := ⟨id⟩
instance st_sl20 {l : List D} {R : D → Prop} : Step (Sl2 (.lst l) none μ R) (R (.lst (evL l))) := ⟨fun h => ⟨l, (fun _ z => nomatch z), rfl, by rw [pick2_0]; exact h⟩⟩
instance st_sl21 {l : List D} {R : D → Prop} : Step (Sl2 (.lst l) (some 1) μ R) (R (.lst (evL (l.drop 1)))) := ⟨fun h => ⟨l, (fun _ z => nomatch z), rfl, by rw [pick2_1]; exact h⟩⟩
end Dl
namespace Dl
open PySem PySem.Spec PyProof.Rows L2
variable {X : Cx} {K : PySem.W.Frag} {Z : Bs}
/-! ### a dict that is locked while an expression walks it -/
def dLockE (de : DE) : DE := fun δ μ Q => ∃ p l, μ p = some (.dct l) ∧ ∀ od kvs, de δ (updM μ p (.lck od kvs l)) fun d δ' μ' => μ' p = some (.lck od kvs l) ∧ Q d δ' (updM μ' p (.dct l))
/-! ### a part of a slice that may be None -/
def dPartN (de : DE) : DO := fun δ μ Q => de δ μ fun x δ1 μ1 => (x = .non ∧ Q none δ1 μ1) ∨ ∃ i, x = .int i ∧ Q (some i) δ1 μ1
variable {δ : Ss} {μ : Mem}
instance st_partN {de : DE} {R : Option Int → Ss → Mem → Prop} : Step (dPartN de δ μ R) (de δ μ fun x δ1 μ1 => (x = .non ∧ R none δ1 μ1) ∨ ∃ i, x = .int i ∧ R (some i) δ1 μ1) := ⟨id⟩
instance st_lockE {de : DE} {Q : QE} : Step (dLockE de δ μ Q) (∃ p l, μ p = some (.dct l) ∧ ∀ od kvs, de δ (updM μ p (.lck od kvs l)) fun d δ' μ' => μ' p = some (.lck od kvs l) ∧ Q d δ' (updM μ' p (.dct l))) := ⟨id⟩
end Dl
namespace Dl
open PySem PySem.Spec PyProof.Rows L2
variable {X : Cx} {K : PySem.W.Frag} {Z : Bs}
/-! ### the class of a thing is known only when it runs: one way or the other -/
theorem pe_or {e : Expr} {t t' : TE} (h : PE X e t) (h' : PE X e t') : PE X e (fun σ H Q => t σ H Q ∨ t' σ H Q) :=
  ⟨fun pins s σ H Q I q => q.elim (fun q => h.run pins s σ H Q I q) (fun q => h'.run pins s σ H Q I q)⟩
def dOrE (d d' : DE) : DE := fun δ μ Q => d δ μ Q ∨ d' δ μ Q
theorem d_orE {e : Expr} {t t' : TE} {d d' : DE} (h : PD K Z X e t d) (h' : PD K Z X e t' d') : PD K Z X e (fun σ H Q => t σ H Q ∨ t' σ H Q) (dOrE d d') :=
  ⟨pe_or h.p h'.p, fun B hB S μ H σ δ Q QD rl k q => q.elim (fun q => .inl (h.s B hB S μ H σ δ Q QD rl k q)) (fun q => .inr (h'.s B hB S μ H σ δ Q QD rl k q))⟩
/-! ### a def of which nothing is said -/
theorem up_vac {dsp : DSp} (hv : ∀ ds μ Q E, ¬ dsp ds μ Q E) {vs : List V} {H : Hp} {Q : VK} {E : XK} : ¬ up K dsp vs H Q E := fun h => by
  obtain ⟨S, μ, ds, QD, ED, r, hl, hs, _⟩ := h
  exact hv _ _ _ _ hs
theorem fng_vac {P : Program} {w : World} {mg : Str → Option Value} {base : Heap} {CX : CXT} {k : Nat} {f : Addr} {fd : FuncData} {ps : List Str} {dsp : DSp} (hv : ∀ ds μ Q E, ¬ dsp ds μ Q E) : FnG P w K mg base CX k f fd ps (up K dsp) :=
  ⟨fun vs H Q E h => (up_vac hv h).elim, fun A oe t H ar us vs Q E _ _ _ _ _ h => (up_vac hv h).elim⟩
theorem cal_vac {P : Program} {w : World} {mg : Str → Option Value} {base : Heap} {x : Str} {st : Stmt} {ps : List Str} {k : Nat} {dsp : DSp} {dvs : List V} (F : At K mg x st dvs) (hbd : BindOk x x st ps dvs) (hv : ∀ ds μ Q E, ¬ dsp ds μ Q E) : Cal P w K mg base k x ps dvs dsp := by
  obtain ⟨f, fd, G, hm⟩ := F.ex
  exact ⟨f, fd, fng_vac hv, hm, G.kp, binds_of G hbd⟩
theorem calM_vac {P : Program} {w : World} {mg : Str → Option Value} {base : Heap} {C m qual : Str} {st : Stmt} {ps : List Str} {k : Nat} {dsp : DSp} {dvs : List V} (F : AtM K C m qual st dvs) (hbd : BindOk m qual st ps dvs) (hv : ∀ ds μ Q E, ¬ dsp ds μ Q E) : CalM P w K mg base k C m ps dvs dsp := by
  obtain ⟨f, fd, G, hm, hc⟩ := F.ex
  exact ⟨f, fd, fng_vac hv, hm, hc, binds_of G hbd, by
    obtain ⟨oc, od, dV, kV, doc, pm, an, cdv, ct, osl, _, lk, _⟩ := G.ex
    exact ⟨oc, od, osl, lk⟩⟩
end Dl
namespace Dl
open PySem PySem.Spec PyProof.Rows L2
variable {X : Cx} {K : PySem.W.Frag} {Z : Bs}
/-! ### max(list of numbers, default=x) -/
theorem foldl_max_is : ∀ (ns : List Int) (n : Int), ns.foldl max n ∈ n :: ns ∧ ∀ b ∈ n :: ns, b ≤ ns.foldl max n
  | [], n => ⟨List.mem_cons_self, fun b hb => by rw [List.mem_singleton.mp hb]; exact Int.le_refl _⟩
  | m :: ns, n => by
    obtain ⟨h1, h2⟩ := foldl_max_is ns (max n m)
    rw [List.foldl_cons]
    refine ⟨?_, fun b hb => ?_⟩
    · rcases List.mem_cons.mp h1 with e | e
      · rw [e]
        by_cases h : n ≤ m
        · rw [Int.max_eq_right h]; simp
        · rw [Int.max_eq_left (by omega)]; simp
      · exact List.mem_cons_of_mem _ (List.mem_cons_of_mem _ e)
    · have h0 := h2 (max n m) List.mem_cons_self
      rcases List.mem_cons.mp hb with rfl | hb
      · omega
      · rcases List.mem_cons.mp hb with rfl | hb
        · omega
        · exact h2 b (List.mem_cons_of_mem _ hb)
def rMaxF (K : PySem.W.Frag) : List V → List V → Hp → VK → Prop := fun xs zs H Q => ∃ (a : Addr) (ns : List Int) (z : V), xs = [.ref a] ∧ zs = [z] ∧ SqL K H a (ns.map V.int) ∧ (ns = [] → Q z H) ∧ (ns ≠ [] → ∀ M ∈ ns, (∀ b ∈ ns, b ≤ M) → Q (.int M) H)
theorem call_maxF (hc : X.calm = true) (hu : X.A.units + 64 < cLine) : CallRK X (.builtin "max") [Str.ofString "default"] (rMaxF X.K) := by
  intro pins s σ H vs zs us ws Q I r r' h
  obtain ⟨a, ns, z, rfl, rfl, hs, q0, q⟩ := h
  obtain ⟨its, rv, hl, hz⟩ := I.list hs
  rw [Vals.ref1 r]
  cases r' with
  | cons rz rt =>
    cases rt
    have e1 : (ns.map fun n => (V.int n, PyData.int n)).map (fun b : V × PyData => b.1) = ns.map V.int := by rw [List.map_map]; rfl
    have e2 : (ns.map fun n => (V.int n, PyData.int n)).map (fun b : V × PyData => b.2) = ns.map PyData.int := by rw [List.map_map]; rfl
    obtain ⟨e, er⟩ := dp_each I (bs := ns.map fun n => (V.int n, PyData.int n)) (its := its) (by rw [e1]; exact rv) fun b hb => by
      obtain ⟨n, _, rfl⟩ := List.mem_map.mp hb
      exact .int n
    obtain ⟨as, hr⟩ := readsAll_of er
    rw [e2] at hr
    have hdep : PyData.depthAll (ns.map PyData.int) ≤ 40 := depthAll_le fun x hx => by
      obtain ⟨c, hc, rfl⟩ := List.mem_map.mp hx
      exact Nat.zero_le _
    have hal : PySem.W.AlikeAll (ns.map PyData.int) := ⟨fun x hx y hy => (by obtain ⟨a, _, rfl⟩ := List.mem_map.mp hx; obtain ⟨b, _, rfl⟩ := List.mem_map.mp hy; simp [PySem.W.alike]), fun x hx => (by obtain ⟨a, _, rfl⟩ := List.mem_map.mp hx; nofun)⟩
    refine PySem.W.max_list_default (xs := ns.map PyData.int) (I.ok.hd hc) hl.isList (by simpa using hr) hal (by omega) (fun e0 h' tk hk => ?_) fun y ys i v h' tk bs ex hv hrd hk => ?_
    · exact ⟨z, H, I.kept (t' := tk) hk, rz, q0 (List.map_eq_nil_iff.mp e0)⟩
    · cases ns with
      | nil => cases ex
      | cons n ns =>
        rw [List.map_cons] at ex
        obtain ⟨rfl, rfl⟩ := List.cons.inj ex
        rw [PySem.W.maxD_ints] at hrd
        obtain ⟨m1, m2⟩ := foldl_max_is ns n
        cases hrd
        exact ⟨.int _, H, I.kept (t' := tk) hk, ⟨_, rfl⟩, q (List.cons_ne_nil _ _) _ m1 m2⟩
def dMaxF (da dk : DA) : DE := fun δ μ Q => da δ μ fun xs δ1 μ1 => dk δ1 μ1 fun zs δ2 μ2 => ∃ (d z : D) (ns : List Int), xs = [d] ∧ zs = [z] ∧ lstOf μ2 d = some (ns.map .int) ∧ (ns = [] → Q z δ2 μ2) ∧ (ns ≠ [] → ∀ M ∈ ns, (∀ b ∈ ns, b ≤ M) → Q (.int M) δ2 μ2)
theorem d_maxF {e : Expr} {p pos : Pos} {kws : List Keyword} {ta tk : TA} {da dk : DA} (hc : X.calm = true) (hu : X.A.units + 64 < cLine) (hm : X.mg "max" = none) (ha : PDA K Z X [e] ta da) (hkw : PDK K Z X kws tk dk) (hg : Gl X "max" := by rfl) (hk : X.K = K := by rfl)
    (he : backTo pos (starEach [e] X.env) = (false, eval e X.env) :: backTo pos (starEach [] X.env) := by rfl) (hpl : (backTo pos (starEach [e] X.env)).any (·.1) = false := by rfl)
    (hall : (backToKw pos (keywordEach kws X.env)).all (·.1.isSome) = true := by rfl) (hnone : (backToKw pos (keywordEach kws X.env)).any (·.1.isNone) = false := by rfl) (hks : (backToKw pos (keywordEach kws X.env)).filterMap (·.1) = [Str.ofString "default"] := by rfl) :
    PD K Z X (.Call (.Name "max" p) [e] kws pos) (tCKw (rMaxF K) ta tk) (dMaxF da dk) := by
  subst hk
  exact ⟨pe_callBK (call_maxF hc hu) hg hm (by decide +kernel) ha.p hkw.p (by decide) (by decide) he hpl hall hnone hks, fun B hB S μ H σ δ Q QD rl k q => by
    refine ha.s B hB S μ H σ δ _ _ rl (fun S1 μ1 H1 δ1 xs ds e1 r1 hx q1 => ?_) q
    refine hkw.s B hB S1 μ1 H1 σ δ1 _ _ r1 (fun S2 μ2 H2 δ2 zs es e2 r2 hz q2 => ?_) q1
    obtain ⟨d, z, ns, rfl, rfl, hl, q0, q⟩ := q2
    obtain ⟨v, rfl, hv⟩ := RepL.one' (RepL.mono e2 _ _ hx)
    obtain ⟨zv, rfl, hzv⟩ := RepL.one' hz
    obtain ⟨a, vs, rfl, hs, hr⟩ := lst_is r2.r3 hv hl
    have ev := RepL.int hr
    subst ev
    exact ⟨a, ns, zv, rfl, rfl, hs, fun e0 => k S2 μ2 H2 δ2 zv z (e1.trans e2) r2 hzv (q0 e0), fun h0 M hM hb => k S2 μ2 H2 δ2 (.int M) (.int M) (e1.trans e2) r2 rfl (q h0 M hM hb)⟩⟩
/-! ### steps -/
def MaxF (xs zs : List D) (μ : Mem) (R : D → Prop) : Prop := ∃ (d z : D) (ns : List Int), xs = [d] ∧ zs = [z] ∧ lstOf μ d = some (ns.map .int) ∧ (ns = [] → R z) ∧ (ns ≠ [] → ∀ M ∈ ns, (∀ b ∈ ns, b ≤ M) → R (.int M))
instance st_i_maxF {da dk : DA} {δ : Ss} {μ : Mem} {Q : QE} : Step (dMaxF da dk δ μ Q) (da δ μ fun xs δ1 μ1 => dk δ1 μ1 fun zs δ2 μ2 => MaxF xs zs μ2 fun d => Q d δ2 μ2) := ⟨id⟩
theorem i_maxF {d z : D} {ns : List Int} {μ : Mem} {R : D → Prop} (hl : lstOf μ d = some (ns.map .int)) (h0 : ns = [] → R z) (h1 : ns ≠ [] → ∀ M ∈ ns, (∀ b ∈ ns, b ≤ M) → R (.int M)) : MaxF [d] [z] μ R := ⟨d, z, ns, rfl, rfl, hl, h0, h1⟩
end Dl
namespace Dl
open PySem PySem.Spec PyProof.Rows L2
/-! ### {k: v, l: w} -/
section
variable {X : Cx} {K : PySem.W.Frag} {Z : Bs}
def dDic2 (kc lc : Key) (dv dw : DE) : DE := fun δ μ Q => ∀ p, μ p = none → dv δ (updM μ p (.dct [])) fun d δ1 μ1 => dw δ1 μ1 fun e δ2 μ2 => μ2 p = some (.dct []) ∧ Q (.ref p) δ2 (updM μ2 p (.dct [(kc, d), (lc, e)]))
theorem d_dic2 {k v l w : Expr} {pos : Pos} {tk tv tl tw : TE} {kd ld : D} {kc lc : Key} {dv dw : DE} (hk : PD K Z X k tk (dC kd)) (hkc : keyD kd = some kc) (hv : PD K Z X v tv dv) (hl : PD K Z X l tl (dC ld)) (hlc : keyD ld = some lc) (hw : PD K Z X w tw dw) (hne : kc ≠ lc := by decide +kernel) :
    PD K Z X (.Dict [some k, some l] [v, w] pos) (tDisp [(tk, tv), (tl, tw)]) (dDic2 kc lc dv dw) :=
  ⟨pe_disp (pps_cons hk.p hv.p (pps_cons hl.p hw.p pps_nil)) rfl rfl (by simp) (by simp), fun B hB S μ H σ δ Q QD rl kq q => fun p hp => by
    obtain ⟨r2, g⟩ := rl.r3.cell (o := .dK []) (m := .dct []) hp ⟨[], rfl, rfl⟩
    have rl2 := rl.grow g r2
    refine hk.s B hB S _ _ σ δ _ (fun d δ1 μ1 => d = kd ∧ δ1 = δ ∧ μ1 = updM μ p (.dct [])) rl2 (fun S1 μ1 H1 δ1 x dx e1 r1 hx q1 => ?_) ⟨rfl, rfl, rfl⟩
    obtain ⟨rfl, rfl, rfl⟩ := q1
    refine hv.s B hB S1 _ H1 σ δ1 _ _ r1 (fun S2 μ2 H2 δ2 y dy e2 r2' hy q2 => ?_) (q p (rl.r3.free hp).2)
    refine hl.s B hB S2 μ2 H2 σ δ2 _ (fun d δ3 μ3 => d = ld ∧ δ3 = δ2 ∧ μ3 = μ2) r2' (fun S3 μ3 H3 δ3 z dz e3 r3 hz q3 => ?_) ⟨rfl, rfl, rfl⟩
    obtain ⟨rfl, rfl, rfl⟩ := q3
    refine hw.s B hB S3 _ H3 σ δ3 _ _ r3 (fun S4 μ4 H4 δ4 u du e4 r4 hu q4 => ?_) q2
    obtain ⟨hm, q4⟩ := q4
    obtain ⟨_, o', h3, vs, rfl, h4⟩ := r4.r3.mu p _ hm
    have h4 : vs = [] := h4
    subst h4
    have hx' := key_v hx hkc
    subst hx'
    have hz' := key_v hz hlc
    subst hz'
    refine ⟨h3, [(kc, y), (lc, u)], rfl, by simp, ?_⟩
    have em : mergeK [] [(kc, y), (lc, u)] = [(kc, y), (lc, u)] := by simp [mergeK, putK, hne]
    obtain ⟨r5, g5⟩ := r4.r3.write hm (o := .dK (mergeK [] [(kc, y), (lc, u)])) (m := .dct [(kc, dy), (lc, du)]) ⟨_, rfl, by rw [em]; exact ⟨y, [(lc, u)], rfl, Rep.mono (e3.trans e4) _ _ hy, u, [], rfl, hu, rfl⟩⟩
    exact kq S4 _ _ δ4 _ (.ref p) (((e1.trans e2).trans e3).trans e4) (r4.grow g5 r5) rfl q4⟩
instance st_dic2 {kc lc : Key} {dv dw : DE} {δ : Ss} {μ : Mem} {Q : QE} : Step (dDic2 kc lc dv dw δ μ Q) (∀ p, μ p = none → dv δ (updM μ p (.dct [])) fun d δ1 μ1 => dw δ1 μ1 fun e δ2 μ2 => μ2 p = some (.dct []) ∧ Q (.ref p) δ2 (updM μ2 p (.dct [(kc, d), (lc, e)]))) := ⟨id⟩
end
end Dl
namespace Dl
open PySem PySem.Spec PyProof.Rows L2
/-! ### x in a list or a tuple of data of any depth -/
section
variable {X : Cx} {K : PySem.W.Frag}
def rInE (K : PySem.W.Frag) (neg : Bool) : R2 := fun x y H Q => ∃ d ds, Dp K H x d ∧ (Dp K H y (.list ds) ∨ Dp K H y (.tuple ds)) ∧ SeqAt.shaped d = true ∧ SeqAt.shaped (.list ds) = true ∧ Q (.bl (if neg then !(ds.any fun z => PyData.eqv z d) else ds.any fun z => PyData.eqv z d)) H
theorem op_inE (hu : X.A.units + 65 < cLine) : OpR X (compareOp .In) (rInE X.K false) := by
  intro pins s σ H x y v u Q I rx ry h
  obtain ⟨d, ds, hd, he, sd, se, q⟩ := h
  obtain ⟨as, r1⟩ := Dp.reads I d x v hd rx
  rcases he with he | he
  · obtain ⟨bs, r2⟩ := Dp.reads I (.list ds) y u he ry
    exact SeqAt.in_list_reads r2 r1 (SeqAt.canLay_of_shaped se) (SeqAt.canLay_of_shaped sd) (room_in_shaped sd hu) ⟨.bl _, H, I, rfl, q⟩
  · obtain ⟨bs, r2⟩ := Dp.reads I (.tuple ds) y u he ry
    exact SeqAt.in_tuple_reads r2 r1 (SeqAt.canLay_of_shaped se) (SeqAt.canLay_of_shaped sd) (room_in_shaped sd hu) ⟨.bl _, H, I, rfl, q⟩
def rdInE (neg : Bool) : DR := fun x y μ Q => ∃ l, (drf μ y = .lst l ∨ y = .tup l) ∧ shD x = true ∧ shD (.lst l) = true ∧ Q (.bl (if neg then !anyD x l else anyD x l)) μ
theorem inE_dp {S : Hp} {μ : Mem} {H : Hp} {y : V} {dy : D} {l : List D} (r : R3 K S μ H) (hy : Rep K S dy y) (e : drf μ dy = .lst l ∨ dy = .tup l) (h : shD (.lst l) = true) : ∃ ps, pds l = some ps ∧ SeqAt.shaped (.list ps) = true ∧ (Dp K H y (.list ps) ∨ Dp K H y (.tuple ps)) := by
  rcases e with e | rfl
  · obtain ⟨ps, h1, h2, h3⟩ := inD_dp r hy e h
    exact ⟨ps, h1, h2, .inl h3⟩
  · obtain ⟨p, e1, s1⟩ := shD_some h
    have h0 : (pds l).map PyData.list = some p := e1
    cases e2 : pds l with
    | none => rw [e2] at h0; cases h0
    | some ps =>
      rw [e2] at h0
      cases h0
      exact ⟨ps, rfl, s1, .inr (dp_of r.ex _ _ _ hy (show (pds l).map PyData.tuple = some (.tuple ps) by rw [e2]; rfl))⟩
theorem sim_inE {neg : Bool} : SimR K (rInE K neg) (rdInE neg) := fun S μ H x y dx dy Q QD r hx hy k q => by
  obtain ⟨l, e, h1, h2, q⟩ := q
  obtain ⟨d, e1, s1⟩ := shD_some h1
  obtain ⟨ps, e2, s2, h3⟩ := inE_dp r hy e h2
  exact ⟨d, ps, dp_of r.ex _ _ _ hx e1, h3, s1, s2, k S μ H _ (.bl (if neg then !anyD dx l else anyD dx l)) Grow.refl r (by rw [anyD_pds e2 e1]; rfl) q⟩
theorem o_inE (hu : X.A.units + 65 < cLine) (hk : X.K = K := by rfl) : PDOp K X (compareOp .In) (rInE K false) (rdInE false) := by
  subst hk
  exact ⟨op_inE hu, sim_inE⟩
theorem in_plE {μ : Mem} {QM' : D → Mem → Prop} {m m' : Nat} {neg : Bool} {x y : D} {l : List D} (e : drf μ y = .lst l ∨ y = .tup l) (h1 : plD m x) (h2 : plD m' (.lst l)) (m1 : m ≤ 64) (m2 : m' ≤ 64) {b : Bool} (eb : anyD x l = b) (h : QM' (.bl (if neg then !b else b)) μ) : rdInE neg x y μ QM' := ⟨l, e, h1.sh m1, h2.sh m2, by rw [eb]; exact h⟩
end
end Dl
namespace Dl
open PySem PySem.Spec PyProof.Rows L2
/-! ### a key by a lambda of one parameter: what its body reads, no Inv -/
def Kp (g g' : Heap) : Prop := ∀ b o, g.get? b = some o → g'.get? b = some o
theorem Kp.rfl {g : Heap} : Kp g g := fun _ _ e => e
theorem Kp.trans {g g' g2 : Heap} (a : Kp g g') (b : Kp g' g2) : Kp g g2 := fun c o e => b c o (a c o e)
/-- the lambda's own names -/
structure LEnv (mg : Str → Option Value) (x : Str) (env : Env) (g : Heap) (v : Value) : Prop where
  kind : env.scope.kind = .function
  loc : env.kindOf x = some .local
  ns : ∃ m, g.Ns env.locals m ∧ m x = some v
  gl : env.globals = mainGlobals
  gn : g.Ns mainGlobals mg
  bl : env.builtins = builtinsNs
  bn : ∃ mb, g.Ns builtinsNs mb ∧ ∀ y : Str, y ≠ "__name__" → mb y = bootBuiltins y
theorem LEnv.kp {mg : Str → Option Value} {x : Str} {env : Env} {g g' : Heap} {v : Value} (L : LEnv mg x env g v) (k : Kp g g') : LEnv mg x env g' v := by
  obtain ⟨m, h1, h2⟩ := L.ns
  obtain ⟨mb, h3, h4⟩ := L.bn
  exact ⟨L.kind, L.loc, ⟨m, h1.keeps k, h2⟩, L.gl, L.gn.keeps k, L.bl, ⟨mb, h3.keeps k, h4⟩⟩
/-- e reads the key d where G tells it of x's value -/
structure KB (P : Program) (w : World) (sc : Scope) (x : Str) (e : Expr) (G : Heap → Value → PyData → Prop) : Prop where
  mono : ∀ g g' v d, Kp g g' → G g v d → G g' v d
  run : ∀ (mg : Str → Option Value) (A : Around) (env : Env) (s : Shared) (v : Value) (d : PyData) (E : Value → Shared → Prop), env.scope = sc → LEnv mg x env s.heap v → G s.heap v d → A.units + 4 < cLine → wpAny (model P w) A (eval e env) (PySem.W.KeyPure d s) E s
section
variable {P : Program} {w : World} {sc : Scope} {x : Str}
theorem kp_self {d : PyData} {s : Shared} {u : Value} (h : Reads s.heap u d []) : PySem.W.KeyPure d s u s := ⟨s.heap, s.toks, rfl, Kp.rfl, h⟩
theorem name_ev {mg : Str → Option Value} {A : Around} {env : Env} {s : Shared} {v : Value} {E Q : Value → Shared → Prop} {p : Pos} (L : LEnv mg x env s.heap v) (hd : (x == ("__debug__" : Str)) = false) (h : Q v s) : wpAny (model P w) A (eval (.Name x p) env) Q E s := by
  obtain ⟨m, h1, h2⟩ := L.ns
  exact wpAny_Name (wpAny_loadName_local L.kind L.loc h1 h2 h) hd
def GVar : Heap → Value → PyData → Prop := fun g v d => Reads g v d []
theorem kb_var {p : Pos} (hd : (x == ("__debug__" : Str)) = false := by decide) : KB P w sc x (.Name x p) GVar :=
  ⟨fun g g' v d k h => Reads.keeps k h, fun mg A env s v d E _ L h _ => name_ev L hd (kp_self h)⟩
/-- a pair -/
def GTup (G1 G2 : Heap → Value → PyData → Prop) : Heap → Value → PyData → Prop := fun g v d => ∃ d1 d2, d = .tuple [d1, d2] ∧ G1 g v d1 ∧ G2 g v d2
theorem kb_tup {a b : Expr} {G1 G2 : Heap → Value → PyData → Prop} {c} {pos : Pos} (ha : KB P w sc x a G1) (hb : KB P w sc x b G2) (hs : ∀ env, backTo pos (starEach [a, b] env) = [(false, eval a env), (false, eval b env)] := by intro _; rfl) : KB P w sc x (.Tuple [a, b] c pos) (GTup G1 G2) := by
  refine ⟨fun g g' v d kk h => ?_, fun mg A env s v d E es L h hu => ?_⟩
  · obtain ⟨d1, d2, rfl, h1, h2⟩ := h
    exact ⟨d1, d2, rfl, ha.mono _ _ _ _ kk h1, hb.mono _ _ _ _ kk h2⟩
  · obtain ⟨d1, d2, rfl, h1, h2⟩ := h
    refine wpAny_Tuple_spliced ?_
    rw [hs env]
    refine Calls.spliced_cons (wpAny_mono (ha.run mg A env s v d1 E es L h1 hu) (fun u1 s1 q1 => ?_) fun _ _ z => z)
    obtain ⟨g1, t1, rfl, k1, r1⟩ := q1
    refine Calls.spliced_cons (wpAny_mono (hb.run mg A env _ v d2 E es (L.kp k1) (hb.mono _ _ _ _ k1 h2) hu) (fun u2 s2 q2 => ?_) fun _ _ z => z)
    obtain ⟨g2, t2, rfl, k2, r2⟩ := q2
    refine Calls.spliced_nil ⟨by show 2 ≤ sizeLine; decide, _, t2, rfl, fun b o e => Heap.get?_push_of_some _ (k2 _ _ (k1 _ _ e)), ?_⟩
    have kp : ∀ b o, g2.get? b = some o → (g2.push { cls := .type "tuple", data := .seq #[u1, u2] }).get? b = some o := fun b o e => Heap.get?_push_of_some _ e
    exact Reads.tuple (Heap.get?_push_size _ rfl) rfl rfl (ReadsAll.cons (Reads.keeps kp (Reads.keeps k2 r1)) (ReadsAll.cons (Reads.keeps kp r2) ReadsAll.nil))
/-- the lambda is called -/
theorem key_call {name qual : Str} {pr : Arguments} {body : Expr} {cl : List (Str × Addr)} {pm ctv : Value} {c' f : Addr} {mg : Str → Option Value} {G : Heap → Value → PyData → Prop} {A : Around} {s : Shared} {v : Value} {d : PyData}
    (kb : KB P w sc x body G) (hx : sc.names.lookup x = some .local) (hkind : sc.kind = .function) (hco : sc.isCoroutine = false) (hgen : sc.isGenerator = false) (hcell : ∀ y ∈ sc.names, y.2 ≠ .cell)
    (ho : s.heap.get? f = some (PySem.W.kla_obj name qual pr body sc cl pm c' ctv)) (hcd : s.heap.CodeRec (.ref c') qual) (hroom : A.depth < recursionLimit) (hlim : s.heap.NoLimit)
    (hb : ∀ (v : Value), bindArgs (PySem.W.kla_fn name qual pr body sc cl pm (.ref c') ctv) ⟨[v], []⟩ = pure [(x, v)])
    (gn : s.heap.Ns mainGlobals mg) (bn : ∃ mb, s.heap.Ns builtinsNs mb ∧ ∀ y : Str, y ≠ "__name__" → mb y = bootBuiltins y)
    (hG : G s.heap v d) (hu : A.units + 5 < cLine) (hun : ∀ env, (A.deeper env).units + 4 < cLine) : wpAny (model P w) A (call (.ref f) [v]) (PySem.W.KeyPure d s) (fun _ _ => False) s := by
  refine wpAny_call (PySem.W.kla_callFunE hroom ho rfl hco hgen rfl hcd ?_)
  rw [hb v]
  refine wpAny_pure (wpAny_newFunctionEnv hcell (fun y hy => ?_) (fun h1 hns hsb => ?_) hkind)
  · cases List.mem_singleton.mp hy
    exact hx
  have kp : Kp s.heap h1 := fun b o e => hsb.extBut b o (Nat.ne_of_lt (Heap.lt_size e)) (Heap.get?_push_of_some _ e)
  refine ⟨hlim.keeps kp, PySem.W.kla_codeExpr (wpAny_mono (kb.run mg _ _ _ v d _ rfl ⟨hkind, ?_, ⟨_, hns, ?_⟩, rfl, gn.keeps kp, rfl, ?_⟩ (kb.mono _ _ _ _ kp hG) (hun _)) (fun u s' q => ?_) fun _ _ z => z)⟩
  · exact hx
  · show (match x == x with | true => some v | false => List.lookup x []) = some v
    rw [beq_self_eq_true]
  · obtain ⟨mb, h3, h4⟩ := bn
    exact ⟨mb, h3.keeps kp, h4⟩
  · obtain ⟨h', tk, rfl, k2, r⟩ := q
    exact ⟨h', tk, rfl, kp.trans k2, r⟩
end
end Dl
namespace Dl
open PySem PySem.Spec PyProof.Rows L2
/-! ### a lambda is made -/
/-- what the heap becomes: as it was, or a code object more and the table longer -/
def LamH (H H1 : Hp) (P c' : Addr) (q : Str) : Prop := H1 = H ∨ ∃ (ps ps' : Array Value), H P = some (.tbl ps) ∧ H c' = none ∧ P ≠ c' ∧ H1 = upd (upd H P (.tbl ps')) c' (LamX.CodeO c' q) ∧ LamX.TabS H1 P q
theorem codeO_n {c : Addr} {q : Str} {ps : Array Value} (h : LamX.CodeO c q = .tbl ps) : False := by
  unfold LamX.CodeO at h
  cases h
section
variable {X : Cx} {pn : List (Addr × Obj)} {σ : L2.St} {H : Hp} {t : Shared}
theorem lam_mk {c P : Addr} {pr : Arguments} {bd : Expr} {sc : Scope} {pos : Pos} {E Q : Value → Shared → Prop} (I : Inv X pn σ H t) (T : LamX.TabB X.base X.mg c P) (ec : X.env.code = .ref c) (hT : LamX.TabS H P (X.env.qual ++ "<lambda>"))
    (nd : defaultsOf pr X.env = ([], [])) (hf : ∀ y ∈ sc.names, y.2 = .free → ∃ a, X.env.cells.lookup y.1 = some a)
    (h : ∀ (f c' : Addr) (pm ctv : Value) (H1 : Hp) (h1 : Heap) (tk : Nat), Inv X pn σ H1 { t with heap := h1, toks := tk } → LamH H H1 P c' (X.env.qual ++ "<lambda>") →
      h1.get? f = some (PySem.W.kla_obj "<lambda>" (X.env.qual ++ "<lambda>") pr bd sc (cloFrom X.env.cells sc.names []) pm c' ctv) → H1 c' = some (LamX.CodeO c' (X.env.qual ++ "<lambda>")) → H1 f = none → f ∉ frs X.stack → Q (.ref f) { t with heap := h1, toks := tk }) :
    wpAny (model X.prog X.w) X.A (eval (.Lambda pr bd sc pos) X.env) Q E t := by
  obtain ⟨ps, eP, tr, am⟩ := hT
  have gP : t.heap.get? P = some { cls := .none, data := .fields ps } := I.hok P _ eP
  have nofr : ∀ f, t.heap.objs.size ≤ f → f ∉ frs X.stack := fun f hf z => by
    rcases List.mem_cons.mp (I.stkSub _ z) with e | e
    · have h1 := I.lt
      rw [← e] at h1
      exact Nat.lt_irrefl _ (Nat.lt_of_lt_of_le h1 hf)
    · exact I.nofs hf e
  apply PySem.W.kla_eval nd
  cases ca : codeAmong pos ps.toList with
  | some cv =>
    obtain ⟨c', rfl, hc'⟩ := am pos cv ca
    apply PySem.W.kla_makeFunctionHit (mg := X.mg) (c := c) (P := P) (ps := ps) (closure_ok hf) I.ok.glob (I.mod.glob.keeps I.bk) ec (T.code.keeps I.bk) gP tr ca (T.bm.keeps I.bk)
    intro ctv h1 tk kx sz
    exact h h1.objs.size c' _ ctv H _ tk (I.kept fun b o e => Heap.get?_push_of_some _ (kx b o e)) (.inl rfl) (Heap.get?_push_size _ rfl) hc' (I.hok.fresh sz) (nofr _ sz)
  | none =>
    apply PySem.W.kla_makeFunction (mg := X.mg) (c := c) (P := P) (ps := ps) (closure_ok hf) I.ok.glob (I.mod.glob.keeps I.bk) ec (T.code.keeps I.bk) gP tr ca T.gP (T.bm.keeps I.bk)
    intro c' ctv h1 tk kx ge lt rc tb
    obtain ⟨c2, oc, vs, tt, e2, g2, d2, n2⟩ := rc
    cases e2
    have n0 : H c' = none := I.hok.fresh ge
    have nP : P ≠ c' := ne_of_none eP n0
    have I1 := LamX.inv_table (q := X.env.qual ++ "<lambda>") (t' := tk) (more := #[rawInt pos.line, rawInt pos.col, .ref c']) (h' := h1.push (PySem.W.kla_obj "<lambda>" (X.env.qual ++ "<lambda>") pr bd sc (cloFrom X.env.cells sc.names []) ((X.mg "__name__").getD .none) c' ctv)) I eP
      (fun b o hb e => Heap.get?_push_of_some _ (kx b o hb e)) (Heap.get?_push_of_some _ tb) ge ⟨oc, vs, tt, Heap.get?_push_of_some _ g2, d2, n2⟩
    have el : (ps ++ #[rawInt pos.line, rawInt pos.col, .ref c']).toList = ps.toList ++ [rawInt pos.line, rawInt pos.col, .ref c'] := by simp
    have hsz : t.heap.objs.size ≤ h1.objs.size := Nat.le_trans ge (Nat.le_of_lt lt)
    refine h h1.objs.size c' _ ctv _ _ tk I1 (.inr ⟨ps, _, eP, n0, nP, rfl, ⟨_, by rw [upd_ne nP, upd_same], by rw [el]; exact PySem.TriplesOk_snoc _ _ _ _ tr, fun p' cv hv => ?_⟩⟩) (Heap.get?_push_size _ rfl) upd_same
      (by rw [upd_ne (Nat.ne_of_gt lt), upd_ne (Nat.ne_of_gt (Nat.lt_of_lt_of_le (Heap.lt_size gP) hsz))]; exact I.hok.fresh hsz) (nofr _ hsz)
    rw [el] at hv
    rcases LamX.among_app _ tr hv with z | z
    · obtain ⟨c0, e1, e3⟩ := am p' cv z
      refine ⟨c0, e1, ?_⟩
      rw [upd_ne (ne_of_none e3 n0), upd_ne (fun y => by rw [y, eP] at e3; exact codeO_n (Option.some.inj e3).symm)]
      exact e3
    · exact ⟨c', z, upd_same⟩
end
/-! ### what the layer tracks stays -/
variable {K : PySem.W.Frag}
theorem tabC_un {p q : Addr × Addr} (hp : p ∈ tabC K) (hq : q ∈ tabC K) (e : p.2 = q.2) : p = q := by
  unfold tabC at hp hq
  obtain ⟨_, b⟩ := He.ba (List.mem_filter.mp hp).2
  have z := List.all_eq_true.mp b q (List.mem_filter.mp hq).1
  rw [Bool.or_eq_true] at z
  rcases z with z | z
  · rw [e] at z; simp at z
  · have z := beq_iff_eq.mp z
    exact Prod.ext z.symm e
theorem tab_un {p q : Addr × Str} (hp : p ∈ tabList K) (hq : q ∈ tabList K) (e : p.1 = q.1) : p = q := by
  unfold tabList at hp hq
  obtain ⟨a, ha, rfl⟩ := List.mem_map.mp hp
  obtain ⟨b, hb, rfl⟩ := List.mem_map.mp hq
  rw [tabC_un ha hb e]
theorem R3.lam {S : Hp} {μ : Mem} {H H1 : Hp} {P c' : Addr} {q : Str} (r : R3 K S μ H) (hz : (P, q) ∈ tabList K) (h : LamH H H1 P c' q) : R3 K S μ H1 ∧ Grow S μ H S μ H1 := by
  rcases h with rfl | ⟨ps, ps', eP, n0, nP, rfl, hT⟩
  · exact ⟨r, Grow.refl⟩
  have at_ : ∀ a, a ≠ P → (∃ o, H a = some o) → upd (upd H P (.tbl ps')) c' (LamX.CodeO c' q) a = H a := fun a h1 ⟨o, h2⟩ => by rw [upd_ne (ne_of_none h2 n0), upd_ne h1]
  have t0 := r.tb.t _ hz
  have sP : ∀ a u, S a = some u → a ≠ P := fun a u e z => by rw [z, t0.1] at e; cases e
  have mP : ∀ a m, μ a = some m → a ≠ P := fun a m e z => by rw [z, t0.2.1] at e; cases e
  refine ⟨⟨fun a u e => ?_, fun a m e => ?_, ⟨fun z hz' => ?_⟩⟩, ⟨Ex.refl S, fun a u e => .inl e, fun a u e _ _ hn => ?_, fun a m e => .inl (by rw [e]; rfl), fun a o e => ?_⟩⟩
  · rcases r.ex a u e with z | ⟨z, o, ho⟩ | ⟨sa, n, z, ho, hn⟩
    · exact .inl ⟨by rw [at_ a (sP a u e) ⟨_, z.1⟩]; exact z.1, z.2⟩
    · exact .inr (.inl ⟨z, o, by rw [at_ a (sP a u e) ⟨_, ho⟩]; exact ho⟩)
    · exact .inr (.inr ⟨sa, n, z, by rw [at_ a (sP a u e) ⟨_, ho⟩]; exact ho, hn⟩)
  · obtain ⟨h1, u, h2, h3⟩ := r.mu a m e
    exact ⟨h1, u, by rw [at_ a (mP a m e) ⟨_, h2⟩]; exact h2, h3⟩
  · obtain ⟨h1, h2, h3⟩ := r.tb.t z hz'
    refine ⟨h1, h2, ?_⟩
    by_cases e : z.1 = P
    · rw [tab_un hz' hz e]; exact hT
    · obtain ⟨qs, g1, g2, g3⟩ := h3
      refine ⟨qs, by rw [at_ _ e ⟨_, g1⟩]; exact g1, g2, fun pos cv hv => ?_⟩
      obtain ⟨c0, e1, e2⟩ := g3 pos cv hv
      exact ⟨c0, e1, by rw [at_ _ (fun y => by rw [y, eP] at e2; exact codeO_n (Option.some.inj e2).symm) ⟨_, e2⟩]; exact e2⟩
  · rw [at_ a (fun z => hn ps (by rw [z, eP] at e; exact (Option.some.inj e).symm)) ⟨_, e⟩]; exact e
  · obtain ⟨o1, h1⟩ := th_upd (p := P) (u := .tbl ps') a o e
    exact th_upd a o1 h1
/-! ### keys, told of values -/
structure KeyR (K : PySem.W.Frag) (P : Program) (w : World) (mg : Str → Option Value) (sc : Scope) (x : Str) (body : Expr) (GV : Hp → V → PyData → Prop) (KD : D → PyData → Prop) : Prop where
  g : ∃ G, KB P w sc x body G ∧ ∀ (X : Cx) (pn : List (Addr × Obj)) (σ : L2.St) (H : Hp) (t : Shared) (v : V) (u : Value) (d : PyData), X.K = K → X.mg = mg → Inv X pn σ H t → RelV v u → GV H v d → G t.heap u d
  s : ∀ (S : Hp) (μ : Mem) (H : Hp) (v : V) (e : D) (d : PyData), R3 K S μ H → Rep K S e v → KD e d → GV H v d
section
variable {P : Program} {w : World} {mg : Str → Option Value} {sc : Scope} {x : Str}
def VTup (G1 G2 : Hp → V → PyData → Prop) : Hp → V → PyData → Prop := fun H v d => ∃ d1 d2, d = .tuple [d1, d2] ∧ G1 H v d1 ∧ G2 H v d2
def KTup (G1 G2 : D → PyData → Prop) : D → PyData → Prop := fun e d => ∃ d1 d2, d = .tuple [d1, d2] ∧ G1 e d1 ∧ G2 e d2
theorem key_tup {a b : Expr} {V1 V2 : Hp → V → PyData → Prop} {K1 K2 : D → PyData → Prop} {c} {pos : Pos} (ha : KeyR K P w mg sc x a V1 K1) (hb : KeyR K P w mg sc x b V2 K2) (hs : ∀ env, backTo pos (starEach [a, b] env) = [(false, eval a env), (false, eval b env)] := by intro _; rfl) : KeyR K P w mg sc x (.Tuple [a, b] c pos) (VTup V1 V2) (KTup K1 K2) := by
  obtain ⟨G1, a1, a2⟩ := ha.g
  obtain ⟨G2, b1, b2⟩ := hb.g
  refine ⟨⟨GTup G1 G2, kb_tup a1 b1 hs, fun X pn σ H t v u d hK hM I rv h => ?_⟩, fun S μ H v e d r hv h => ?_⟩
  · obtain ⟨d1, d2, rfl, h1, h2⟩ := h
    exact ⟨d1, d2, rfl, a2 X pn σ H t v u d1 hK hM I rv h1, b2 X pn σ H t v u d2 hK hM I rv h2⟩
  · obtain ⟨d1, d2, rfl, h1, h2⟩ := h
    exact ⟨d1, d2, rfl, ha.s S μ H v e d1 r hv h1, hb.s S μ H v e d2 r hv h2⟩
end
/-! ### sorted(e, key=lambda x: ..) -/
/-- what is asked of the lambda's own scope -/
structure KScope (sc : Scope) (x : Str) : Prop where
  lx : sc.names.lookup x = some .local
  kind : sc.kind = .function
  co : sc.isCoroutine = false
  gen : sc.isGenerator = false
  cell : ∀ y ∈ sc.names, y.2 ≠ .cell
  free : ∀ y ∈ sc.names, y.2 ≠ .free
def tSortL (K : PySem.W.Frag) (q : Str) (GV : Hp → V → PyData → Prop) (te : TE) : TE := fun σ H Q => te σ H fun x H1 => ∀ P, (P, q) ∈ tabList K → LamX.TabS H1 P q ∧ ∀ H2 c', LamH H1 H2 P c' q → ∃ (a : Addr) (bs : List (V × PyData)), x = .ref a ∧ SqL K H2 a (bs.map (·.1)) ∧ (∀ b ∈ bs, GV H2 b.1 b.2) ∧
  PySem.W.AllAlike (bs.map (·.2)) ∧ PySem.W.Sortable (bs.map (·.2)) ∧ (∀ b ∈ bs, b.2.depth ≤ 40) ∧ bs.length ≤ sizeLine ∧ ∀ p, H2 p = none → Q (.ref p) (upd H2 p (.lst ((bs.mergeSort (PySem.W.dataLe false (·.2))).map (·.1))))
section
variable {X : Cx}
theorem each_rel : ∀ {bs : List (V × PyData)} {its : List Value}, Vals (bs.map (·.1)) its → PySem.W.EachIs (fun v (b : V × PyData) => RelV b.1 v) its bs
  | [], _, r => by cases r; exact .nil
  | b :: bs, _, r => by
    cases r with
    | cons r1 r2 => exact .cons r1 (each_rel r2)
theorem pe_sortK {e : Expr} {te : TE} {pr : Arguments} {body : Expr} {sc : Scope} {lpos kp p pos : Pos} {c P : Addr} {x : Str} {GV : Hp → V → PyData → Prop} {KD : D → PyData → Prop} {k : Nat} (he : PE X e te) (hg : Gl X "sorted") (hm : X.mg "sorted" = none) (hz : (P, X.env.qual ++ "<lambda>") ∈ tabList X.K) (T : LamX.TabB X.base X.mg c P) (ec : X.env.code = .ref c)
    (nd : defaultsOf pr X.env = ([], [])) (S : KScope sc x) (R : KeyR X.K X.prog X.w X.mg sc x body GV KD) (rm : Room k X.A)
    (hb : ∀ (qual : Str) (pm ctv : Value) (c' : Addr) (v : Value), bindArgs (PySem.W.kla_fn "<lambda>" qual pr body sc [] pm (.ref c') ctv) ⟨[v], []⟩ = pure [(x, v)])
    (hs : backTo pos (starEach [e] X.env) = (false, eval e X.env) :: backTo pos (starEach [] X.env)) (hpl : (backTo pos (starEach [e] X.env)).any (·.1) = false) :
    PE X (.Call (.Name "sorted" p) [e] [⟨some "key", .Lambda pr body sc lpos, kp⟩] pos) (tSortL X.K (X.env.qual ++ "<lambda>") GV te) := by
  obtain ⟨G, kb, hG⟩ := R.g
  refine ⟨fun pn t σ H Q I h => ?_⟩
  refine wpAny_Call_Name_kw (ld_blt I hg hm (u := .builtin "sorted") (by decide +kernel) ?_)
  refine callWith_kw (rest := []) (kws := [⟨some "key", .Lambda pr body sc lpos, kp⟩]) ?_ hs hpl rfl rfl
  rw [hs]
  refine Calls.spliced_cons (thn (he.run pn t σ H _ I h) fun u t1 ⟨y, H1, I1, ry, qq⟩ => ?_)
  obtain ⟨hT, q⟩ := qq P hz
  refine Calls.spliced_nil (kws_cons ?_)
  refine lam_mk I1 T ec hT nd (fun y hy e => absurd e (S.free y hy)) fun f c' pm ctv H2 h2 tk I2 hl gf gc _ _ => kws_nil ?_
  obtain ⟨a, bs, rfl, hq, hd, h1, h2', h3, hL, q⟩ := q H2 c' hl
  cases ry
  obtain ⟨its, rv, pl, _⟩ := I2.list hq
  have cl0 : cloFrom X.env.cells sc.names [] = [] := by
    have : ∀ l : List (Str × NameKind), (∀ y ∈ l, y.2 ≠ .free) → cloFrom X.env.cells l [] = [] := fun l => by
      induction l with
      | nil => intro _; rfl
      | cons y l ih =>
        intro hl
        have r := ih fun z hz => hl z (List.mem_cons_of_mem _ hz)
        obtain ⟨n, kk⟩ := y
        cases kk <;> first | exact r | exact absurd rfl (hl _ List.mem_cons_self)
    exact this _ S.free
  rw [cl0] at gf
  obtain ⟨⟨oc, vs, tt, g1, g2, g3⟩, _⟩ := I2.hok c' _ gc
  obtain ⟨mb, b1, b2⟩ := I2.mod.blt
  have hu := rm.un
  show wpAny _ _ (call (.builtin "sorted") [.ref a] [(Str.ofString "key", .ref f)]) _ _ _
  refine PySem.W.sorted_key_data (b := false) (fun b : V × PyData => b.2) pl.isList (each_rel rv) h1 h2' hL (fun b hb' => ?_) (ksk_s1 _ _) (fun _ => ksk_l1 _ _) (fun _ => ksk_t1 _ _)
    (fun v b rb hb' h tk' kk => ?_) fun out cc h' tk' kk _ hD hlen eo => ?_
  · have := h3 b hb'
    omega
  · have g0 := hG X pn σ H2 _ b.1 v b.2 rfl rfl I2 rb (hd b hb')
    refine key_call (mg := X.mg) kb S.lx S.kind S.co S.gen S.cell (kk _ _ gf) ⟨c', oc, vs, tt, rfl, kk _ _ g1, g2, g3⟩ rm.depth (I2.nolimit.keeps kk) (fun v => hb _ _ _ _ v) ((I2.mod.glob.keeps I2.bk).keeps kk) ⟨mb, (b1.keeps I2.bk).keeps kk, b2⟩ (kb.mono _ _ _ _ kk g0) ?_ (fun env => ?_)
    · show X.A.units + 2 + 5 < cLine
      omega
    · show X.A.units + 2 + 3 + 4 < cLine
      omega
  · have hlen2 : ((bs.mergeSort (PySem.W.dataLe false (·.2))).map (·.1)).length ≤ sizeLine := by
      rw [List.length_map, List.length_mergeSort]
      exact hL
    exact ⟨.ref _, upd H2 (h2.objs.size + 1) (.lst ((bs.mergeSort (PySem.W.dataLe false (·.2))).map (·.1))), I2.laid (t' := tk') kk (Nat.le_succ _) ⟨hlen2, out, cc, each_vals eo, hD⟩, rfl, q _ (I2.hok.fresh (Nat.le_succ _))⟩
end
/-! ### the maker's code object stands in K -/
structure LamK (K : PySem.W.Frag) (mg : Str → Option Value) (q : Str) (cdv : Value) : Prop where
  ex : ∃ c P, cdv = .ref c ∧ (c, P) ∈ tabC K ∧ codeNm K c = q ∧ P ≠ mainGlobals ∧ ∃ bm o, mg "__builtins__" = some (.ref bm) ∧ bm ≠ builtinsNs ∧ bm ≠ mainGlobals ∧ bm ≠ P ∧ K.lookup bm = some o ∧ o.cls = .type "module" ∧ o.dict = some builtinsNs ∧ o.data = .plain
theorem look_mem {K : PySem.W.Frag} {a : Addr} {o : Obj} (h : K.lookup a = some o) : (a, o) ∈ K := by
  induction K with
  | nil => cases h
  | cons p K ih =>
    obtain ⟨b, u⟩ := p
    by_cases e : a = b
    · subst e
      rw [List.lookup_cons_self] at h
      cases h
      exact List.mem_cons_self
    · rw [List.lookup_cons, beq_eq_false_iff_ne.mpr e] at h
      exact List.mem_cons_of_mem _ (ih h)
theorem lamK_of {K : PySem.W.Frag} {mg : Str → Option Value} {qs : List Str} {q : Str} {cdv : Value} (h : lamB qs K = true) (g : mg "__builtins__" = some (.ref (He.ga K "__builtins__"))) (hc : PySem.W.codeIn K cdv q = true) (hq : qs.contains q = true := by decide) : LamK K mg q cdv := by
  obtain ⟨hm, hl⟩ := He.ba h
  have hq' : lamQ K q = true := List.all_eq_true.mp hl q (List.contains_iff_mem.mp hq)
  have hm2 : ∃ o, K.lookup (He.ga K "__builtins__") = some o ∧ o.cls = .type "module" ∧ o.dict = some builtinsNs ∧ o.data = .plain ∧ He.ga K "__builtins__" ≠ builtinsNs ∧ He.ga K "__builtins__" ≠ mainGlobals ∧ ∀ p ∈ tabC K, p.2 ≠ He.ga K "__builtins__" ∧ p.2 ≠ mainGlobals := by
    unfold modB at hm
    split at hm
    · rename_i c d _ e
      obtain ⟨a1, hm⟩ := He.ba hm
      obtain ⟨a2, hm⟩ := He.ba hm
      obtain ⟨a3, hm⟩ := He.ba hm
      obtain ⟨a4, hm⟩ := He.ba hm
      refine ⟨_, e, by rw [beq_iff_eq.mp a1], by rw [beq_iff_eq.mp a2], rfl, by simpa using a3, by simpa using a4, fun p hp => ?_⟩
      obtain ⟨b1, b2⟩ := He.ba (List.all_eq_true.mp hm p hp)
      exact ⟨by simpa using b1, by simpa using b2⟩
    · cases hm
  obtain ⟨o, e0, e1, e2, e3, n1, n2, n3⟩ := hm2
  unfold PySem.W.codeIn at hc
  split at hc
  · rename_i c
    split at hc
    · rename_i c1 d1 vs s1 ek
      have z := List.all_eq_true.mp hq' (c, _) (look_mem ek)
      have nz : nmIs q ⟨c1, d1, .fields vs, s1⟩ = true := hc
      rw [nz] at z
      obtain ⟨r, hr, hz⟩ := List.any_eq_true.mp (show (tabC K).any (fun r => r.1 == c && codeNm K c == q) = true from z)
      obtain ⟨z1, z2⟩ := He.ba hz
      obtain ⟨rc, rP⟩ := r
      have z1 : rc = c := beq_iff_eq.mp z1
      subst z1
      exact ⟨rc, rP, rfl, hr, beq_iff_eq.mp z2, (n3 _ hr).2, _, o, g, n1, n2, fun y => (n3 _ hr).1 y.symm, e0, e1, e2, e3⟩
    · cases hc
  · cases hc
section
variable {X : Cx} {Z : Bs}
theorem pe_sortL {e : Expr} {te : TE} {pr : Arguments} {body : Expr} {sc : Scope} {lpos kp p pos : Pos} {qual x : Str} {GV : Hp → V → PyData → Prop} {KD : D → PyData → Prop} {k : Nat} (he : PE X e te) (hg : Gl X "sorted") (hm : X.mg "sorted" = none) (L : LamK X.K X.mg qual X.env.code) (eq : X.env.qual = qual ++ ".<locals>.")
    (nd : defaultsOf pr X.env = ([], [])) (S : KScope sc x) (R : KeyR X.K X.prog X.w X.mg sc x body GV KD) (rm : Room k X.A)
    (hb : ∀ (qual : Str) (pm ctv : Value) (c' : Addr) (v : Value), bindArgs (PySem.W.kla_fn "<lambda>" qual pr body sc [] pm (.ref c') ctv) ⟨[v], []⟩ = pure [(x, v)])
    (hs : backTo pos (starEach [e] X.env) = (false, eval e X.env) :: backTo pos (starEach [] X.env)) (hpl : (backTo pos (starEach [e] X.env)).any (·.1) = false) :
    PE X (.Call (.Name "sorted" p) [e] [⟨some "key", .Lambda pr body sc lpos, kp⟩] pos) (tSortL X.K (qual ++ ".<locals>." ++ "<lambda>") GV te) := by
  obtain ⟨c, P, ec, hP, hn, gP, bm, o, b1, b2, b3, b4, b5, b6, b7, b8⟩ := L.ex
  refine ⟨fun pn t σ H Q I h => ?_⟩
  have T : LamX.TabB X.base X.mg c P := ⟨PySem.W.codeHd_of_K I.mod.kin (He.ba (List.mem_filter.mp hP).2).1, ⟨bm, o, b1, b2, b3, b4, I.mod.kin _ _ b5, b6, b7, b8⟩, fun z => gP z.symm⟩
  have hz : (P, qual ++ ".<locals>." ++ "<lambda>") ∈ tabList X.K := by
    unfold tabList
    exact List.mem_map.mpr ⟨(c, P), hP, by show (P, codeNm X.K c ++ (".<locals>." : Str) ++ ("<lambda>" : Str)) = _; rw [hn]⟩
  have pe := pe_sortK (pos := pos) (p := p) (kp := kp) (lpos := lpos) he hg hm (by rw [eq]; exact hz) T ec nd S R rm hb hs hpl
  rw [eq] at pe
  exact pe.run pn t σ H Q I h
/-- the reading -/
def dSortK (KD : D → PyData → Prop) (de : DE) : DE := fun δ μ Q => de δ μ fun x δ1 μ1 => ∃ ps : List (D × PyData), lstOf μ1 x = some (ps.map (·.1)) ∧ (∀ p ∈ ps, KD p.1 p.2) ∧ PySem.W.AllAlike (ps.map (·.2)) ∧ PySem.W.Sortable (ps.map (·.2)) ∧ (∀ p ∈ ps, p.2.depth ≤ 40) ∧ ps.length ≤ sizeLine ∧
  Q (.lst ((ps.mergeSort (PySem.W.dataLe false (·.2))).map (·.1))) δ1 μ1
theorem d_sortK {e : Expr} {te : TE} {de : DE} {pr : Arguments} {body : Expr} {sc : Scope} {lpos kp p pos : Pos} {qual x : Str} {GV : Hp → V → PyData → Prop} {KD : D → PyData → Prop} {k : Nat} (hK : X.K = K) (he : PD K Z X e te de) (hm : X.mg "sorted" = none) (L : LamK K X.mg qual X.env.code) (S : KScope sc x) (R : KeyR K X.prog X.w X.mg sc x body GV KD) (rm : Room k X.A)
    (hg : Gl X "sorted" := by rfl) (eq : X.env.qual = qual ++ ".<locals>." := by rfl) (nd : defaultsOf pr X.env = ([], []) := by rfl)
    (hb : ∀ (qual : Str) (pm ctv : Value) (c' : Addr) (v : Value), bindArgs (PySem.W.kla_fn "<lambda>" qual pr body sc [] pm (.ref c') ctv) ⟨[v], []⟩ = pure [(x, v)] := by intros; rfl)
    (hs : backTo pos (starEach [e] X.env) = (false, eval e X.env) :: backTo pos (starEach [] X.env) := by rfl) (hpl : (backTo pos (starEach [e] X.env)).any (·.1) = false := by rfl) :
    PD K Z X (.Call (.Name "sorted" p) [e] [⟨some "key", .Lambda pr body sc lpos, kp⟩] pos) (tSortL K (qual ++ ".<locals>." ++ "<lambda>") GV te) (dSortK KD de) := by
  subst hK
  refine ⟨pe_sortL he.p hg hm L eq nd S R rm hb hs hpl, fun B hB S0 μ H σ δ Q QD rl kq q => ?_⟩
  refine he.s B hB S0 μ H σ δ _ _ rl (fun S1 μ1 H1 δ1 y dy e1 r1 hy q1 => ?_) q
  obtain ⟨ps, hl, h1, h2, h3, h4, h5, q1⟩ := q1
  intro P hz
  refine ⟨(r1.r3.tb.t _ hz).2.2, fun H2 c' lh => ?_⟩
  obtain ⟨r2, g⟩ := r1.r3.lam hz lh
  obtain ⟨a, vs, rfl, hs', hr⟩ := lst_is r2 hy hl
  obtain ⟨ts, rfl, rfl, ht⟩ := zip_rep hr
  have e3 : (ts.map (fun t => (t.2, t.1.2))).map (fun b : V × PyData => b.1) = ts.map (·.2) := by rw [List.map_map]; rfl
  have e2 : (ts.map (fun t => (t.2, t.1.2))).map (fun b : V × PyData => b.2) = (ts.map (·.1)).map (fun p : D × PyData => p.2) := by rw [List.map_map, List.map_map]; rfl
  refine ⟨a, ts.map (fun t => (t.2, t.1.2)), rfl, by rw [e3]; exact hs', fun b hb => ?_, by rw [e2]; exact h2, by rw [e2]; exact h3, fun b hb => ?_, by rw [List.length_map]; rw [List.length_map] at h5; exact h5, fun p hp => ?_⟩
  · obtain ⟨t, ht', rfl⟩ := List.mem_map.mp hb
    exact R.s _ _ _ _ _ _ r2 (ht t ht') (h1 t.1 (List.mem_map.mpr ⟨t, ht', rfl⟩))
  · obtain ⟨t, ht', rfl⟩ := List.mem_map.mp hb
    exact h4 t.1 (List.mem_map.mpr ⟨t, ht', rfl⟩)
  · have m1 : (ts.mergeSort (fun a b => PySem.W.dataLe false (fun t : (D × PyData) × V => t.1.2) a b)).map (fun t => (t.2, t.1.2)) = (ts.map (fun t => (t.2, t.1.2))).mergeSort (PySem.W.dataLe false (fun b : V × PyData => b.2)) := List.map_mergeSort fun _ _ _ _ => rfl
    have m2 : (ts.mergeSort (fun a b => PySem.W.dataLe false (fun t : (D × PyData) × V => t.1.2) a b)).map (·.1) = (ts.map (·.1)).mergeSort (PySem.W.dataLe false (fun p : D × PyData => p.2)) := List.map_mergeSort fun _ _ _ _ => rfl
    rw [← m1, List.map_map]
    rw [← m2, List.map_map] at q1
    have hm' : ∀ t ∈ ts.mergeSort (fun a b => PySem.W.dataLe false (fun t : (D × PyData) × V => t.1.2) a b), Rep X.K S1 t.1.1 t.2 := fun t h => ht t (List.mem_mergeSort.mp h)
    have rl2 := r1.grow g r2
    obtain ⟨r3, g3⟩ := r2.alloc (o := .lst ((ts.mergeSort (fun a b => PySem.W.dataLe false (fun t : (D × PyData) × V => t.1.2) a b)).map (·.2))) hp
    exact kq _ μ1 _ δ1 _ (.lst ((ts.mergeSort (fun a b => PySem.W.dataLe false (fun t : (D × PyData) × V => t.1.2) a b)).map (·.1.1))) (e1.trans g3.ex) (rl2.grow g3 r3) ⟨p, _, rfl, upd_same, RepL.mono g3.ex _ _ (rep_zip hm')⟩ q1
end
/-! ### the reading's steps -/
def SortN (KD : D → PyData → Prop) (x : D) (μ : Mem) (R : D → Prop) : Prop := ∃ ps : List (D × PyData), lstOf μ x = some (ps.map (·.1)) ∧ (∀ p ∈ ps, KD p.1 p.2) ∧ PySem.W.AllAlike (ps.map (·.2)) ∧ PySem.W.Sortable (ps.map (·.2)) ∧ (∀ p ∈ ps, p.2.depth ≤ 40) ∧ ps.length ≤ sizeLine ∧
  R (.lst ((ps.mergeSort (PySem.W.dataLe false (·.2))).map (·.1)))
theorem i_sortK {KD : D → PyData → Prop} {de : DE} {δ : Ss} {μ : Mem} {Q : QE} (h : de δ μ fun x δ1 μ1 => SortN KD x μ1 fun d => Q d δ1 μ1) : dSortK KD de δ μ Q := h
instance st_i_sortK {KD : D → PyData → Prop} {de : DE} {δ : Ss} {μ : Mem} {Q : QE} : Step (dSortK KD de δ μ Q) (de δ μ fun x δ1 μ1 => SortN KD x μ1 fun d => Q d δ1 μ1) := ⟨fun h => i_sortK h⟩
theorem sort_gen {α : Type} {row : α → D} {key : α → PyData} {l : List α} {x : D} {KD : D → PyData → Prop} {μ : Mem} {R : D → Prop} (hx : lstOf μ x = some (l.map row)) (hk : ∀ a ∈ l, KD (row a) (key a)) (ha : PySem.W.AllAlike (l.map key)) (hs : PySem.W.Sortable (l.map key)) (hd : ∀ a ∈ l, (key a).depth ≤ 40) (hl : l.length ≤ sizeLine)
    (h : R (.lst ((l.mergeSort (PySem.W.dataLe false key)).map row))) : SortN KD x μ R := by
  have e1 : (l.map fun a => (row a, key a)).map (fun p : D × PyData => p.1) = l.map row := by rw [List.map_map]; rfl
  have e2 : (l.map fun a => (row a, key a)).map (fun p : D × PyData => p.2) = l.map key := by rw [List.map_map]; rfl
  have m : (l.mergeSort (PySem.W.dataLe false key)).map (fun a => (row a, key a)) = (l.map fun a => (row a, key a)).mergeSort (PySem.W.dataLe false (fun p : D × PyData => p.2)) := List.map_mergeSort fun _ _ _ _ => rfl
  refine ⟨l.map fun a => (row a, key a), by rw [e1]; exact hx, fun p hp => ?_, by rw [e2]; exact ha, by rw [e2]; exact hs, fun p hp => ?_, by rw [List.length_map]; exact hl, ?_⟩
  · obtain ⟨a, h1, rfl⟩ := List.mem_map.mp hp
    exact hk a h1
  · obtain ⟨a, h1, rfl⟩ := List.mem_map.mp hp
    exact hd a h1
  · rw [← m, List.map_map]
    exact h
end Dl
namespace Dl
open PySem PySem.Spec PyProof.Rows L2
/-! ### keys: len(x) of a tuple, a tuple of numbers -/
section
variable {P : Program} {w : World} {sc : Scope} {x : Str}
def GLen : Heap → Value → PyData → Prop := fun g v d => ∃ (a : Addr) (its : Array Value) (mg : Str → Option Value), v = .ref a ∧ IsTup g a its ∧ its.size < 2 ^ 62 ∧ d = .int its.size ∧ g.Ns mainGlobals mg ∧ mg "len" = none
theorem kb_len {p p2 pos : Pos} (hl : sc.names.lookup ("len" : Str) = some NameKind.globalImplicit) (hd : (x == ("__debug__" : Str)) = false := by decide) : KB P w sc x (.Call (.Name "len" p) [.Name x p2] [] pos) GLen := by
  refine ⟨fun g g' v d k h => ?_, fun mg A env s v d E es L h hu => ?_⟩
  · obtain ⟨a, its, mg, h1, h2, h3, h4, h5, h6⟩ := h
    exact ⟨a, its, mg, h1, h2.keeps k, h3, h4, h5.keeps k, h6⟩
  · obtain ⟨a, its, mg', rfl, h2, h3, rfl, h5, h6⟩ := h
    have hm : mg "len" = none := (L.gn.agree h5 "len").trans h6
    obtain ⟨mb, b1, b2⟩ := L.bn
    refine wpAny_Call_Name_kw (Calls.Name_function_global L.kind (by show env.scope.names.lookup ("len" : Str) = _; rw [es]; exact hl) (Calls.loadGlobal_builtin (by rw [L.gl]; exact L.gn) hm (by rw [L.bl]; exact b1) ((b2 "len" (by decide)).trans PySem.boot_len) ?_) (by decide))
    refine PyProof.Rows.callWith_builtin1 (env := env) (e := .Name x p2) (rest := []) (Calls.spliced_cons (name_ev L hd (Calls.spliced_nil ?_))) (by rfl) (by rfl)
    exact len_tuple h2 (by omega) ⟨s.heap, s.toks + 1 + 1, rfl, Kp.rfl, .int _ _⟩
def VLen (mg : Str → Option Value) (K : PySem.W.Frag) : Hp → V → PyData → Prop := fun H v d => mg "len" = none ∧ ∃ (p : Addr) (xs : List V), v = .ref p ∧ SqT K H p xs ∧ d = .int xs.length
def KLen : D → PyData → Prop := fun e d => ∃ l : List D, e = .tup l ∧ d = .int l.length
theorem key_len {mg : Str → Option Value} {K : PySem.W.Frag} {p p2 pos : Pos} (hm : mg "len" = none) (hl : sc.names.lookup ("len" : Str) = some NameKind.globalImplicit := by rfl) (hd : (x == ("__debug__" : Str)) = false := by decide) : KeyR K P w mg sc x (.Call (.Name "len" p) [.Name x p2] [] pos) (VLen mg K) KLen :=
  ⟨⟨GLen, kb_len hl hd, fun X pn σ H t v u d hK hM I rv h => by
    subst hK hM
    obtain ⟨_, a, xs, rfl, hs, rfl⟩ := h
    cases rv
    obtain ⟨its, r, pl, hz⟩ := I.tuple hs
    have hlen := r.length
    exact ⟨a, its.toArray, X.mg, rfl, pl, by have := hlen; unfold sizeLine at hz; simp at *; omega, by simp [hlen], I.mod.glob.keeps I.bk, by assumption⟩⟩, fun S μ H v e d r hv h => by
    obtain ⟨l, rfl, rfl⟩ := h
    obtain ⟨a, xs, rfl, hs, hr⟩ := hv
    exact ⟨hm, a, xs, rfl, exr_t r.ex (SqT.of hs), by rw [RepL.length hr]⟩⟩
def VTi (K : PySem.W.Frag) : Hp → V → PyData → Prop := fun H v d => ∃ (p : Addr) (ns : List Int), v = .ref p ∧ SqT K H p (ns.map V.int) ∧ d = .tuple (ns.map .int)
def KTi : D → PyData → Prop := fun e d => ∃ ns : List Int, e = .tup (ns.map .int) ∧ d = .tuple (ns.map .int)
theorem reads_ints {g : Heap} : ∀ {ns : List Int} {us : List Value}, Vals (ns.map V.int) us → ReadsAll g us (ns.map .int) []
  | [], _, h => by cases h; exact .nil
  | n :: ns, _, h => by
    cases h with
    | cons r t =>
      obtain ⟨tk, rfl⟩ := r
      exact ReadsAll.cons (as := []) (bs := []) (.int n tk) (reads_ints t)
theorem key_ti {mg : Str → Option Value} {K : PySem.W.Frag} {p : Pos} (hd : (x == ("__debug__" : Str)) = false := by decide) : KeyR K P w mg sc x (.Name x p) (VTi K) KTi :=
  ⟨⟨GVar, kb_var hd, fun X pn σ H t v u d hK hM I rv h => by
    subst hK
    obtain ⟨a, ns, rfl, hs, rfl⟩ := h
    cases rv
    obtain ⟨its, r, pl, hz⟩ := I.tuple hs
    have hr := reads_ints (g := t.heap) r
    obtain ⟨o, e1, e2, n, e3⟩ := pl
    exact .tuple e1 e2 e3 (by simpa using hr)⟩, fun S μ H v e d r hv h => by
    obtain ⟨ns, rfl, rfl⟩ := h
    obtain ⟨a, xs, rfl, hs, hr⟩ := hv
    have e := RepL.int hr
    subst e
    exact ⟨a, ns, rfl, exr_t r.ex (SqT.of hs), rfl⟩⟩
end
end Dl
namespace Dl
open PySem PySem.Spec PyProof.Rows L2
variable {X : Cx} {K : PySem.W.Frag} {Z : Bs}
/-! ### dicts of the module: text keys, values that never change -/
def rdGetC (nm : Str) (tb : List (Str × D)) : DR := fun x y μ Q => x = .fn nm ∧ ∃ z d, y = .str z ∧ tb.lookup z = some d ∧ Q d μ
def rdInC (neg : Bool) (nm : Str) (ks : List Str) : DR := fun x y μ Q => y = .fn nm ∧ ∃ z, x = .str z ∧ Q (.bl (if neg then !ks.contains z else ks.contains z)) μ
/-! ### the facts -/
def CV.d : CV → D
  | .fn n => .fn n
  | .txs l => .ktp (l.map D.str)
/-! ### a slot that holds a def of the module is called -/
theorem Cal.mono {P : Program} {w : World} {mg : Str → Option Value} {base : Heap} {j k : Nat} {x : Str} {ps : List Str} {dvs : List V} {dsp : DSp} (C : Cal P w K mg base j x ps dvs dsp) (h : j ≤ k) : Cal P w K mg base k x ps dvs dsp := by
  obtain ⟨f, fd, F, r⟩ := C.ex
  exact ⟨f, fd, F.mono h, r⟩
def dCallTab (i : Nat) (fs : List (Str × DSp)) (XD : DXW) (da : DA) : DE := fun δ μ Q => ∃ n dsp, δ[i]? = some (.val (.fn n)) ∧ fs.lookup n = some dsp ∧ da δ μ fun ds δ1 μ1 => dsp ds μ1 (fun d μ2 => Q d δ1 μ2) (fun c fs μ2 => XD c fs δ1 μ2)
/-! ### len of such a tuple -/
def rdLenKT : DC := fun xs μ Q => ∃ l, xs = [.ktp l] ∧ Q (.int l.length) μ
/-! ### x[i] -= e -/
/-! ### the reading's steps -/
section
variable {μ : Mem} {δ : Ss} {Q : QE} {R : QM} {nm z : Str} {tb : List (Str × D)} {ks : List Str}
instance st_rdGetC : Step (rdGetC nm tb (.fn nm) (.str z) μ R) (∃ d, tb.lookup z = some d ∧ R d μ) := ⟨fun ⟨d, h, k⟩ => ⟨rfl, z, d, rfl, h, k⟩⟩
instance st_rdInCf : Step (rdInC false nm ks (.str z) (.fn nm) μ R) (R (.bl (ks.contains z)) μ) := ⟨fun h => ⟨rfl, z, rfl, h⟩⟩
instance st_rdInCt : Step (rdInC true nm ks (.str z) (.fn nm) μ R) (R (.bl (!ks.contains z)) μ) := ⟨fun h => ⟨rfl, z, rfl, h⟩⟩
instance st_rdLenKT {l : List D} : Step (rdLenKT [.ktp l] μ R) (R (.int l.length) μ) := ⟨fun h => ⟨l, rfl, h⟩⟩
instance st_callTab {i : Nat} {fs : List (Str × DSp)} {XD : DXW} {da : DA} : Step (dCallTab i fs XD da δ μ Q) (∃ n dsp, δ[i]? = some (.val (.fn n)) ∧ fs.lookup n = some dsp ∧ da δ μ fun ds δ1 μ1 => dsp ds μ1 (fun d μ2 => Q d δ1 μ2) (fun c f μ2 => XD c f δ1 μ2)) := ⟨id⟩
end
end Dl
namespace Dl
open PySem PySem.Spec PyProof.Rows L2
/-! ### sorted(e, key=F), F a def of the module -/
theorem each_snd {α β γ : Type} {R : α → γ → Prop} {f : β → γ} : ∀ {as : List α} {bs : List β}, PySem.W.EachIs (fun a b => R a (f b)) as bs → PySem.W.EachIs R as (bs.map f)
  | [], [], _ => .nil
  | _ :: _, _ :: _, .cons h t => .cons h (each_snd t)
theorem zip_fst {α β : Type} : ∀ {l : List α} {m : List β}, l.length = m.length → (l.zip m).map (·.1) = l
  | [], _, _ => rfl
  | a :: l, b :: m, h => by rw [List.zip_cons_cons, List.map_cons, zip_fst (by simpa using h)]
theorem zip_snd {α β : Type} : ∀ {l : List α} {m : List β}, l.length = m.length → (l.zip m).map (·.2) = m
  | [], [], _ => rfl
  | a :: l, b :: m, h => by rw [List.zip_cons_cons, List.map_cons, zip_snd (by simpa using h)]
theorem Vals.at {vs : List V} {us : List Value} (h : Vals vs us) : ∀ {j : Nat} {u : Value}, us[j]? = some u → ∃ v, vs[j]? = some v ∧ RelV v u := by
  induction h with
  | nil => intro j u e; simp at e
  | cons r _ ih =>
    intro j u e
    cases j with
    | zero => simp at e; subst e; exact ⟨_, by simp, r⟩
    | succ j => obtain ⟨v, e1, e2⟩ := ih (by simpa using e); exact ⟨v, by simpa using e1, e2⟩
def tSortF (K : PySem.W.Frag) (sp : Sp) (te : TE) : TE := fun σ H Q => te σ H fun x H1 => ∃ (a : Addr) (vs : List V) (W : Nat → List V → Hp → Prop), x = .ref a ∧ SqL K H1 a vs ∧ vs.length ≤ sizeLine ∧ W 0 [] H1 ∧
  (∀ i v us H2, vs[i]? = some v → us.length = i → W i us H2 → sp [v] H2 (fun u H3 => W (i + 1) (us ++ [u]) H3) fun _ _ _ => False) ∧
  ∀ us H2, us.length = vs.length → W vs.length us H2 → ∃ ks : List PyData, ks.length = vs.length ∧ (∀ b ∈ us.zip ks, Dp K H2 b.1 b.2) ∧ PySem.W.AllAlike ks ∧ PySem.W.Sortable ks ∧ (∀ k ∈ ks, k.depth ≤ 40) ∧ ∀ p, H2 p = none → Q (.ref p) (upd H2 p (.lst (((vs.zip ks).mergeSort (PySem.W.dataLe false (·.2))).map (·.1))))
section
variable {X : Cx}
/-- behind the making of the keys: no lists but the two are asked of -/
theorem hide_none {h : Heap} {l : List Addr} {b : Addr} (hb : b ∈ l) : (PySem.W.hideAll h l).get? b = none := PySem.W.hideAll_none _ hb
theorem hide_old {h : Heap} {l : List Addr} {b : Addr} {o : Obj} (e : (PySem.W.hideAll h l).get? b = some o) : b ∉ l ∧ h.get? b = some o := by
  refine ⟨fun z => ?_, PySem.W.of_hideAll _ e⟩
  rw [PySem.W.hideAll_none _ z] at e; cases e
theorem sortF_tree {pn : List (Addr × Obj)} {σ : L2.St} {H1 : Hp} {s : Shared} {k n : Nat} {f a0 : Addr} {fd : FuncData} {ps : List Str} {sp : Sp} {vs : List V} {its : List Value} {W : Nat → List V → Hp → Prop} {A' : Around} {E' : Value → Shared → Prop} {Q : VK}
    (F : FnG X.prog X.w X.K X.mg X.base (L2.CX X.prog X.w) k f fd ps sp) (gd : A'.guards = some []) (rm : Room k A') (e0 : ∀ pn H s, Inv X pn σ H s → Env0 X.prog X.w X.K X.mg X.base A' X.stack s H) (hu : A'.units + 64 < cLine) (hb : Binds X.K fd ps [])
    (I : Inv X pn σ H1 s) (ho : s.heap.get? a0 = some (PyProof.Rows.seqObj "list" its.toArray n)) (fa : FpOk X pn H1 a0) (rv : Vals vs its) (hL : vs.length ≤ sizeLine) (w0 : W 0 [] H1)
    (step : ∀ i v us H2, vs[i]? = some v → us.length = i → W i us H2 → sp [v] H2 (fun u H3 => W (i + 1) (us ++ [u]) H3) fun _ _ _ => False)
    (fin : ∀ us H2, us.length = vs.length → W vs.length us H2 → ∃ ks : List PyData, ks.length = vs.length ∧ (∀ b ∈ us.zip ks, Dp X.K H2 b.1 b.2) ∧ PySem.W.AllAlike ks ∧ PySem.W.Sortable ks ∧ (∀ k ∈ ks, k.depth ≤ 40) ∧ ∀ p, H2 p = none → Q (.ref p) (upd H2 p (.lst (((vs.zip ks).mergeSort (PySem.W.dataLe false (·.2))).map (·.1))))) :
    wpAny (model X.prog X.w) A' (ksk_tree a0 (.ref f) false) (fun r t => r = .done (.ret .none) ∧ EP X pn σ Q (.ref a0) t) E' s := by
  have il : its.length = vs.length := rv.length.symm
  have ha : a0 < s.heap.objs.size := Heap.lt_size ho
  obtain ⟨e1, ho1⟩ : ∃ e1, (s.heap.update a0 (Obj.mapSeq fun _ => (#[] : Array Value))).get? a0 = some (PyProof.Rows.seqObj "list" #[] e1) := ⟨_, PyProof.Rows.get?_update_seq ho fun _ => #[]⟩
  have hkS : ((s.heap.update a0 (Obj.mapSeq fun _ => (#[] : Array Value))).push (PyProof.Rows.seqObj "tuple" its.toArray 0)).objs.size = s.heap.objs.size + 1 := by rw [PyProof.Rows.size_push', Heap.size_update]
  unfold ksk_tree
  refine wpAny_bind (PyProof.Rows.listItems_at ho rfl ?_)
  refine wpAny_bind (PyProof.Rows.listUpdate_at ho rfl ?_ (by rw [List.size_toArray]; omega) (Nat.zero_le _))
  refine wpAny_bind (PyProof.Rows.seqEpoch_at ho1 rfl ?_)
  refine wpAny_bind (wpAny_newTuple ?_ (by show its.length ≤ _; omega))
  refine wpAny_bind (wpAny_newList ?_ (Nat.zero_le _))
  refine wpAny_holding ?_
  generalize hkk : ((s.heap.update a0 (Obj.mapSeq fun _ => (#[] : Array Value))).push (PyProof.Rows.seqObj "tuple" its.toArray 0)).objs.size = kS at *
  have sS : ∀ {b o}, b ≠ a0 → s.heap.get? b = some o → (PySem.W.sortingHeap s.heap a0 its).get? b = some o := fun hb e => PySem.W.sortingHeap_old hb e
  have kA : kS ≠ a0 := by rw [hkS]; exact Nat.ne_of_gt (Nat.lt_succ_of_lt ha)
  have gK : (PySem.W.sortingHeap s.heap a0 its).get? kS = some (PyProof.Rows.seqObj "list" #[] 0) := by rw [← hkk]; exact Heap.get?_push_size _ rfl
  have gA : (PySem.W.sortingHeap s.heap a0 its).get? a0 = some (PyProof.Rows.seqObj "list" #[] e1) := Heap.get?_push_of_some _ (Heap.get?_push_of_some _ ho1)
  obtain ⟨fa0, fa1, fa2, fa3, fa4, fa5⟩ := id fa
  have I3 : Inv X pn σ H1 { s with heap := PySem.W.sortingHeap s.heap a0 its, toks := s.toks } := I.turned (fun b o hb e => sS hb e) fa0 fa1 fa3 fa4 fa5
  have nK : H1 kS = none := I.hok.fresh (by rw [hkS]; exact Nat.le_succ _)
  have fK : FpOk X pn H1 kS := I.fpOk (by rw [hkS]; exact Nat.le_succ _) nK
  show wpAny _ _ (ksk_rest a0 (.ref f) false its.toArray e1 (.ref kS)) _ _ { s with heap := PySem.W.sortingHeap s.heap a0 its, toks := s.toks }
  generalize hs3 : ({ s with heap := PySem.W.sortingHeap s.heap a0 its, toks := s.toks } : Shared) = s3 at I3
  have gK : s3.heap.get? kS = some (PyProof.Rows.seqObj "list" #[] 0) := by subst hs3; exact gK
  have gA : s3.heap.get? a0 = some (PyProof.Rows.seqObj "list" #[] e1) := by subst hs3; exact gA
  clear hs3
  unfold ksk_rest
  refine wpAny_bind (wpAny_rule ?_)
  rw [List.forIn_toArray]
  refine wpAny_bind (ksk_fold (fun i t => ∃ (us : List V) (uv : List Value) (H2 : Hp) (e : Nat), Inv X pn σ H2 t ∧ us.length = i ∧ W i us H2 ∧ Vals us uv ∧ t.heap.get? kS = some (PyProof.Rows.seqObj "list" uv.toArray e) ∧ t.heap.get? a0 = some (PyProof.Rows.seqObj "list" #[] e1) ∧ FpOk X pn H2 kS ∧ FpOk X pn H2 a0) its 0 s3
    ⟨[], [], H1, 0, I3, rfl, w0, .nil, gK, gA, fK, fa⟩ (fun j x t hx hI => ?_) fun t hI => ?_)
  · simp only [Nat.zero_add] at hI ⊢
    obtain ⟨us, uv, H2, e, I4, ul, w4, r4, k4, a4, fk, fa⟩ := hI
    obtain ⟨v, hv, rx⟩ := Vals.at rv hx
    have hj : j < vs.length := (List.getElem?_eq_some_iff.mp hv).1
    have Ip := I4.pinned (fp := [kS, a0]) (fun b hb => by
      simp only [List.mem_cons, List.not_mem_nil, or_false] at hb
      rcases hb with rfl | rfl
      · exact fk
      · exact fa) (fun b hb => by
      simp only [List.mem_cons, List.not_mem_nil, or_false] at hb
      rcases hb with rfl | rfl
      · exact ⟨_, k4, fun v z => by cases z⟩
      · exact ⟨_, a4, fun v z => by cases z⟩)
    have hst := step j v us H2 hv ul w4
    refine wpAny_bind (wpAny_attempt (wpAny_call (codeAny_mono (F.go A' X.stack t H2 ⟨[x], []⟩ [x] [v] _ (fun _ _ _ => False) gd rm (e0 _ _ _ Ip) (by
      have z := hb t [x] I4.kIn (by have := F.ln _ _ _ _ hst; simpa using this)
      simpa using z) (.cons rx .nil) hst) fun r t1 hq => ?_)))
    match r, hq with
    | .error e, hq =>
      obtain ⟨_, _, _, _, _, _, _, _, _, _, _, _, z⟩ := hq
      exact z.elim
    | .ok (.ret u), hq =>
      obtain ⟨v1, H3, I5, r5, w5⟩ := Ip.after hq
      have p1 := I5.pin (kS, _) (List.mem_append_right _ (List.mem_append_right _ (mem_pinsAt (b := kS) (by simp) k4)))
      have p2 := I5.pin (a0, _) (List.mem_append_right _ (List.mem_append_right _ (mem_pinsAt (b := a0) (by simp) a4)))
      have ul2 : uv.length = j := by rw [← r4.length]; exact ul
      obtain ⟨c2, hc2⟩ : ∃ c2, (t1.heap.update kS (Obj.mapSeq (·.push u))).get? kS = some (PyProof.Rows.seqObj "list" (uv.toArray.push u) c2) := ⟨_, PyProof.Rows.get?_update_seq p1.1 (·.push u)⟩
      have sb := Heap.SameBut.update t1.heap kS (Obj.mapSeq (·.push u))
      show wpAny _ _ _ _ _ _
      dsimp only
      refine wpAny_bind (PyProof.Rows.listUpdate_at p1.1 rfl ?_ (by rw [List.size_toArray]; omega) (by rw [Array.size_push, List.size_toArray]; omega))
      refine wpAny_pure ⟨rfl, us ++ [v1], uv ++ [u], H3, c2, (I5.unpinned (pins := pn)).turned (t' := t1.toks) (fun b o hb e => (sb.2 b hb).trans e) p1.2.1 fk.2.1 fk.2.2.2.1 fk.2.2.2.2.1 fk.2.2.2.2.2, by rw [List.length_append, ul]; rfl, w5, r4.append (.cons r5 .nil), by rw [hc2]; simp, (sb.2 a0 kA.symm).trans p2.1, ⟨p1.2.1, fk.2⟩, ⟨p2.2.1, fa.2⟩⟩
    | .ok .next, hq => exact False.elim hq
    | .ok .brk, hq => exact False.elim hq
    | .ok .cont, hq => exact False.elim hq
  · obtain ⟨us, uv, H2, e, I4, ul, w4, r4, k4, a4, fk, fa⟩ := hI
    have ul : us.length = vs.length := by omega
    rw [show 0 + its.length = vs.length by omega] at w4
    obtain ⟨ks, kl, hd, al, so, dp, q⟩ := fin us H2 ul w4
    have ulk : us.length = ks.length := by omega
    obtain ⟨_, er⟩ := dp_each I4 (bs := us.zip ks) (its := uv) (by rw [zip_fst ulk]; exact r4) hd
    have er : PySem.W.EachIs (fun w k => ∃ as, Reads t.heap w k as) uv ks := by
      have z := each_snd (R := fun w k => ∃ as, Reads t.heap w k as) (f := fun b : V × PyData => b.2) er
      rw [zip_snd ulk] at z; exact z
    have uvl : uv.length = its.length := by rw [← r4.length]; omega
    refine wpAny_bind (PyProof.Rows.listItems_at k4 rfl ?_)
    refine PySem.W.keyH_end (κ := PySem.W.dataKind t.heap ks) (h₁ := PySem.W.hideAll t.heap [kS, a0]) (fun b o _ e => PySem.W.of_hideAll _ e) (hide_none (by simp)) k4 a4 kA (PySem.W.SortsAt.data (s := t) (by rw [List.toList_toArray]; exact er) al so fun d hd => by have := dp d hd; omega) (by rw [List.size_toArray]; exact uvl) (by omega) fun h3 tk3 c k3 n3 => ⟨rfl, ?_⟩
    have zk : (vs.zip ks).map (fun b : V × PyData => b.2) = ks := zip_snd (by omega)
    have zv : (vs.zip ks).map (fun b : V × PyData => b.1) = vs := zip_fst (by omega)
    have ko : PySem.W.KeyedOut false ((vs.zip ks).map (fun b : V × PyData => b.2)) its (PySem.W.sortVals (PySem.W.dataKind t.heap ks) false uv its) := ⟨t.heap, uv, by rw [zk]; exact al, by rw [zk], by rw [zk]; exact er⟩
    have eo := PySem.W.keyedOut_each (fun b : V × PyData => b.2) ko (each_rel (bs := vs.zip ks) (by rw [zv]; exact rv))
    have I5 := I4.turnedL (ch := [kS, a0]) (h' := PySem.W.hideAll t.heap [kS, a0]) (t' := t.toks) (fun b o hb e => PySem.W.hideAll_get _ e hb) (fun b hb => by
      simp only [List.mem_cons, List.not_mem_nil, or_false] at hb
      rcases hb with rfl | rfl
      · exact fk
      · exact fa)
    have sl : (((vs.zip ks).mergeSort (PySem.W.dataLe false (·.2))).map (·.1)).length ≤ sizeLine := by
      rw [List.length_map, List.length_mergeSort, List.length_zip]; omega
    exact ⟨.ref a0, upd H2 a0 (.lst (((vs.zip ks).mergeSort (PySem.W.dataLe false (·.2))).map (·.1))), I5.laidN (h' := h3) (t' := tk3) (fun b u e => k3 b u (fun z => (hide_old e).1 (by rw [z]; simp)) e) (hide_none (by simp)) fa.1 ⟨sl, _, c, each_vals eo, n3⟩, rfl, q a0 fa.1⟩
theorem pe_sortF {e : Expr} {te : TE} {lp kp p pos : Pos} {k : Nat} {f : Addr} {fd : FuncData} {ps : List Str} {sp : Sp} {y : Str} (he : PE X e te) (hg : Gl X "sorted") (hm : X.mg "sorted" = none) (F : FnG X.prog X.w X.K X.mg X.base (L2.CX X.prog X.w) k f fd ps sp) (gd : X.A.guards = some []) (rm : Room (k + 2) X.A) (hb : Binds X.K fd ps [])
    (hgf : Gl X y) (hmf : X.mg y = some (.ref f)) (hd : (y == ("__debug__" : Str)) = false) (hs : backTo pos (starEach [e] X.env) = (false, eval e X.env) :: backTo pos (starEach [] X.env)) (hpl : (backTo pos (starEach [e] X.env)).any (·.1) = false) :
    PE X (.Call (.Name "sorted" p) [e] [⟨some "key", .Name y lp, kp⟩] pos) (tSortF X.K sp te) := by
  refine ⟨fun pn t σ H Q I h => ?_⟩
  refine wpAny_Call_Name_kw (ld_blt I hg hm (u := .builtin "sorted") (by decide +kernel) ?_)
  refine callWith_kw (rest := []) (kws := [⟨some "key", .Name y lp, kp⟩]) ?_ hs hpl rfl rfl
  rw [hs]
  refine Calls.spliced_cons (thn (he.run pn t σ H _ I h) fun u t1 ⟨z, H1, I1, ry, q⟩ => ?_)
  refine Calls.spliced_nil (kws_cons (thn ((pe_glob (X := X) (v := V.ref f) hgf hmf rfl hd).run pn t1 σ H1 (fun v H2 => v = .ref f ∧ H2 = H1) I1 ⟨rfl, rfl⟩) fun fu t2 ⟨fv, H2, I2, rf, ef, eH⟩ => kws_nil ?_))
  subst ef eH
  cases rf
  obtain ⟨a, vs, W, rfl, hq, hL, w0, step, fin⟩ := q
  cases ry
  obtain ⟨its, rv, pl, _⟩ := I2.list hq
  have il : its.length = vs.length := rv.length.symm
  have hu := rm.un
  show wpAny _ _ (call (.builtin "sorted") [.ref a] [(Str.ofString "key", .ref f)]) _ _ _
  refine PySem.W.sorted_of_sort pl.isList (by omega) (ksk_s1 _ _) (fun _ => ksk_l1 _ _) fun E' => ?_
  rw [ksk_t1]
  have I3 : Inv X pn σ H2 { t2 with heap := PySem.W.copyHeap t2.heap its, toks := t2.toks } := I2.kept (t' := t2.toks) fun b o e => PySem.W.copyHeap_old e
  exact sortF_tree (A' := X.A.in1.in1) F gd rm.in1.in1 (fun _ _ _ J => J.env0.in1.in1) (by show X.A.units + 2 + 64 < cLine; omega) hb I3 (PySem.W.copyHeap_at t2.heap its) (I2.fpOk (Nat.le_succ _) (I2.hok.fresh (Nat.le_succ _))) rv hL w0 step fin
end
section
variable {X : Cx} {K : PySem.W.Frag} {Z : Bs}
/-- the reading: each item, its key, and what the key is as data; the keys are made without a trace -/
def dSortF (dsp : DSp) (de : DE) : DE := fun δ μ Q => de δ μ fun x δ1 μ1 => ∃ ps : List (D × D × PyData), lstOf μ1 x = some (ps.map (·.1)) ∧ (∀ p ∈ ps, ∀ R : QM, R p.2.1 μ1 → dsp [p.1] μ1 R fun _ _ _ => False) ∧ (∀ p ∈ ps, pd p.2.1 = some p.2.2) ∧ PySem.W.AllAlike (ps.map (·.2.2)) ∧ PySem.W.Sortable (ps.map (·.2.2)) ∧ (∀ p ∈ ps, p.2.2.depth ≤ 40) ∧ ps.length ≤ sizeLine ∧
  Q (.lst ((ps.mergeSort (PySem.W.dataLe false (·.2.2))).map (·.1))) δ1 μ1
theorem zip_rep3 {S : Hp} : ∀ {ps : List (D × D × PyData)} {vs : List V}, RepL K S (ps.map (·.1)) vs → vs.length = ps.length ∧ ∀ (i : Nat) (p : D × D × PyData), ps[i]? = some p → ∃ v, vs[i]? = some v ∧ Rep K S p.1 v
  | [], vs, h => by
    have h : vs = [] := h
    subst h
    exact ⟨rfl, fun i p e => by simp at e⟩
  | p :: ps, vs, h => by
    obtain ⟨v, r, rfl, h1, h2⟩ := h
    obtain ⟨e1, h3⟩ := zip_rep3 h2
    refine ⟨by rw [List.length_cons, List.length_cons, e1], fun i q e => ?_⟩
    cases i with
    | zero => simp at e; subst e; exact ⟨v, by simp, h1⟩
    | succ i => obtain ⟨u, e2, h4⟩ := h3 i q (by simpa using e); exact ⟨u, by simpa using e2, h4⟩
theorem d_sortF {e : Expr} {te : TE} {de : DE} {lp kp p pos : Pos} {k : Nat} {y : Str} {ps : List Str} {dsp : DSp} (C : Cal X.prog X.w K X.mg X.base k y ps [] dsp) (he : PD K Z X e te de) (hm : X.mg "sorted" = none) (gd : X.A.guards = some []) (rm : Room (k + 2) X.A) (hk : X.K = K := by rfl) (hgf : Gl X y := by rfl) (hd : (y == ("__debug__" : Str)) = false := by decide)
    (hg : Gl X "sorted" := by rfl) (hs : backTo pos (starEach [e] X.env) = (false, eval e X.env) :: backTo pos (starEach [] X.env) := by rfl) (hpl : (backTo pos (starEach [e] X.env)).any (·.1) = false := by rfl) :
    PD K Z X (.Call (.Name "sorted" p) [e] [⟨some "key", .Name y lp, kp⟩] pos) (tSortF K (up K dsp) te) (dSortF dsp de) := by
  subst hk
  obtain ⟨f, fd, F, hmf, hkp, hb⟩ := C.ex
  obtain ⟨ds, hv, hb⟩ := hb 0 (Nat.le_refl _)
  have e0 : ds = [] := List.length_eq_zero_iff.mp hv.length.symm
  subst e0
  refine ⟨pe_sortF he.p hg hm F gd rm hb hgf hmf hd hs hpl, fun B hB S0 μ H σ δ Q QD rl kq q => ?_⟩
  refine he.s B hB S0 μ H σ δ _ _ rl (fun S1 μ1 H1 δ1 x dx e1 r1 hx q1 => ?_) q
  obtain ⟨qs, hl, h1, h2, h3, h4, h5, h6, q1⟩ := q1
  obtain ⟨a, vs, rfl, hs', hr⟩ := lst_is r1.r3 hx hl
  obtain ⟨vl, vat⟩ := zip_rep3 hr
  refine ⟨a, vs, fun i us H2 => ∃ S, Grow S1 μ1 H1 S μ1 H2 ∧ R3 X.K S μ1 H2 ∧ RepL X.K S ((qs.take i).map (·.2.1)) us, rfl, hs', by omega, ⟨S1, Grow.refl, r1.r3, by rw [List.take_zero]; rfl⟩, fun i v us H2 hv ul w => ?_, fun us H2 ul w => ?_⟩
  · obtain ⟨S, g, r3, hu⟩ := w
    have hi : i < qs.length := by rw [← vl]; exact (List.getElem?_eq_some_iff.mp hv).1
    have hq := List.getElem?_eq_getElem hi
    obtain ⟨v', ev, rv⟩ := vat i _ hq
    rw [hv] at ev; cases ev
    refine ⟨S, μ1, [qs[i].1], fun d μ2 => d = qs[i].2.1 ∧ μ2 = μ1, fun _ _ _ => False, r3, RepL.one (Rep.mono g.ex _ _ rv), h1 _ (List.getElem_mem hi) (fun d μ2 => d = qs[i].2.1 ∧ μ2 = μ1) ⟨rfl, rfl⟩, fun S2 μ2 H3 u d g2 r4 hd z => ?_, fun _ _ _ _ _ _ _ _ _ z => z⟩
    obtain ⟨rfl, rfl⟩ := z
    refine ⟨S2, g.trans g2, r4, ?_⟩
    rw [List.take_succ, hq, List.map_append]
    exact RepL.append (RepL.mono g2.ex _ _ hu) (RepL.one hd)
  · obtain ⟨S, g, r3, hu⟩ := w
    rw [vl, List.take_length] at hu
    have lu : us.length = qs.length := by omega
    refine ⟨qs.map (·.2.2), by rw [List.length_map, vl], fun b hbm => ?_, h3, h4, fun k hk => ?_, fun p hp => ?_⟩
    · obtain ⟨i, eb⟩ := List.mem_iff_getElem?.mp hbm
      have hi := (List.getElem?_eq_some_iff.mp eb).1
      rw [List.length_zip, List.length_map] at hi
      have hq := List.getElem?_eq_getElem (show i < qs.length by omega)
      obtain ⟨u, e2, ru⟩ := RepL.get hu (i := i) (d := qs[i].2.1) (by rw [List.getElem?_map, hq]; rfl)
      have e3 : (us.zip (qs.map (·.2.2)))[i]? = some (u, qs[i].2.2) := by
        rw [List.getElem?_zip_eq_some]
        exact ⟨e2, by rw [List.getElem?_map, hq]; rfl⟩
      rw [eb] at e3; cases e3
      exact dp_of r3.ex _ _ _ ru (h2 _ (List.getElem_mem _))
    · obtain ⟨q, hq, rfl⟩ := List.mem_map.mp hk
      exact h5 q hq
    · have t1 : (qs.zip vs).map (·.1) = qs := zip_fst vl.symm
      have t2 : vs.zip (qs.map (·.2.2)) = (qs.zip vs).map fun t : (D × D × PyData) × V => (t.2, t.1.2.2) := by
        apply List.ext_getElem?
        intro i
        rw [List.getElem?_map]
        by_cases hi : i < qs.length
        · have h1 := List.getElem?_eq_getElem hi
          have h2 := List.getElem?_eq_getElem (show i < vs.length by omega)
          rw [show (vs.zip (qs.map (·.2.2)))[i]? = some (vs[i], qs[i].2.2) from by rw [List.getElem?_zip_eq_some]; exact ⟨h2, by rw [List.getElem?_map, h1]; rfl⟩, show (qs.zip vs)[i]? = some (qs[i], vs[i]) from by rw [List.getElem?_zip_eq_some]; exact ⟨h1, h2⟩]
          rfl
        · rw [List.getElem?_eq_none (by rw [List.length_zip]; omega), List.getElem?_eq_none (by rw [List.length_zip]; omega)]; rfl
      have tr : ∀ t ∈ qs.zip vs, Rep X.K S t.1.1 t.2 := fun t ht => by
        obtain ⟨i, ei⟩ := List.mem_iff_getElem?.mp ht
        rw [show t = (t.1, t.2) from rfl, List.getElem?_zip_eq_some] at ei
        obtain ⟨v, e2, hv⟩ := vat i t.1 ei.1
        rw [ei.2] at e2; cases e2
        exact Rep.mono g.ex _ _ hv
      generalize qs.zip vs = ts at t1 t2 tr
      subst t1
      rw [t2]
      have m1 : (ts.mergeSort (fun a b => PySem.W.dataLe false (fun t : (D × D × PyData) × V => t.1.2.2) a b)).map (fun t => (t.2, t.1.2.2)) = (ts.map fun t : (D × D × PyData) × V => (t.2, t.1.2.2)).mergeSort (PySem.W.dataLe false (fun b : V × PyData => b.2)) := List.map_mergeSort fun _ _ _ _ => rfl
      have m2 : (ts.mergeSort (fun a b => PySem.W.dataLe false (fun t : (D × D × PyData) × V => t.1.2.2) a b)).map (·.1) = (ts.map (·.1)).mergeSort (PySem.W.dataLe false (fun p : D × D × PyData => p.2.2)) := List.map_mergeSort fun _ _ _ _ => rfl
      rw [← m1, List.map_map]
      rw [← m2, List.map_map] at q1
      have hm' : ∀ t ∈ ts.mergeSort (fun a b => PySem.W.dataLe false (fun t : (D × D × PyData) × V => t.1.2.2) a b), Rep X.K S t.1.1 t.2 := fun t h => tr t (List.mem_mergeSort.mp h)
      have rl2 := r1.grow g r3
      obtain ⟨r5, g5⟩ := r3.alloc (o := .lst ((ts.mergeSort (fun a b => PySem.W.dataLe false (fun t : (D × D × PyData) × V => t.1.2.2) a b)).map (·.2))) hp
      have rz : ∀ {ts : List ((D × D × PyData) × V)}, (∀ t ∈ ts, Rep X.K S t.1.1 t.2) → RepL X.K S (ts.map (·.1.1)) (ts.map (·.2)) := fun {ts} => by
        induction ts with
        | nil => intro _; rfl
        | cons t ts ih => exact fun h => ⟨_, _, rfl, h t List.mem_cons_self, ih fun x hx => h x (List.mem_cons_of_mem _ hx)⟩
      exact kq _ μ1 _ δ1 _ (.lst ((ts.mergeSort (fun a b => PySem.W.dataLe false (fun t : (D × D × PyData) × V => t.1.2.2) a b)).map (·.1.1))) (e1.trans (g.ex.trans g5.ex)) (rl2.grow g5 r5) ⟨p, _, rfl, upd_same, RepL.mono g5.ex _ _ (rz hm')⟩ q1
end
/-! ### the reading's steps -/
def SortM (dsp : DSp) (x : D) (μ : Mem) (R : D → Prop) : Prop := ∃ ps : List (D × D × PyData), lstOf μ x = some (ps.map (·.1)) ∧ (∀ p ∈ ps, ∀ R : QM, R p.2.1 μ → dsp [p.1] μ R fun _ _ _ => False) ∧ (∀ p ∈ ps, pd p.2.1 = some p.2.2) ∧ PySem.W.AllAlike (ps.map (·.2.2)) ∧ PySem.W.Sortable (ps.map (·.2.2)) ∧ (∀ p ∈ ps, p.2.2.depth ≤ 40) ∧ ps.length ≤ sizeLine ∧
  R (.lst ((ps.mergeSort (PySem.W.dataLe false (·.2.2))).map (·.1)))
instance st_i_sortF {dsp : DSp} {de : DE} {δ : Ss} {μ : Mem} {Q : QE} : Step (dSortF dsp de δ μ Q) (de δ μ fun x δ1 μ1 => SortM dsp x μ1 fun d => Q d δ1 μ1) := ⟨fun h => h⟩
theorem sortF_gen {α : Type} {row key : α → D} {pk : α → PyData} {l : List α} {x : D} {dsp : DSp} {μ : Mem} {R : D → Prop} (hx : lstOf μ x = some (l.map row)) (hk : ∀ a ∈ l, ∀ R : QM, R (key a) μ → dsp [row a] μ R fun _ _ _ => False) (hp : ∀ a ∈ l, pd (key a) = some (pk a)) (ha : PySem.W.AllAlike (l.map pk)) (hs : PySem.W.Sortable (l.map pk)) (hd : ∀ a ∈ l, (pk a).depth ≤ 40) (hl : l.length ≤ sizeLine)
    (h : R (.lst ((l.mergeSort (PySem.W.dataLe false pk)).map row))) : SortM dsp x μ R := by
  have e1 : (l.map fun a => (row a, key a, pk a)).map (fun p : D × D × PyData => p.1) = l.map row := by rw [List.map_map]; rfl
  have e2 : (l.map fun a => (row a, key a, pk a)).map (fun p : D × D × PyData => p.2.2) = l.map pk := by rw [List.map_map]; rfl
  have m : (l.mergeSort (PySem.W.dataLe false pk)).map (fun a => (row a, key a, pk a)) = (l.map fun a => (row a, key a, pk a)).mergeSort (PySem.W.dataLe false (fun p : D × D × PyData => p.2.2)) := List.map_mergeSort fun _ _ _ _ => rfl
  refine ⟨l.map fun a => (row a, key a, pk a), by rw [e1]; exact hx, fun p hp' => ?_, fun p hp' => ?_, by rw [e2]; exact ha, by rw [e2]; exact hs, fun p hp' => ?_, by rw [List.length_map]; exact hl, ?_⟩
  · obtain ⟨a, h1, rfl⟩ := List.mem_map.mp hp'
    exact hk a h1
  · obtain ⟨a, h1, rfl⟩ := List.mem_map.mp hp'
    exact hp a h1
  · obtain ⟨a, h1, rfl⟩ := List.mem_map.mp hp'
    exact hd a h1
  · rw [← m, List.map_map]; exact h
end Dl
namespace Dl
open PySem PySem.Spec PyProof.Rows L2
variable {X : Cx} {K : PySem.W.Frag} {Z : Bs}
/-! ### dicts of the memory, keys tuples of whole numbers and texts -/
def keysD : List D → Option (List Key)
  | [] => some []
  | d :: l => match keyD d, keysD l with
    | some k, some r => some (k :: r)
    | _, _ => none
def tkey : D → Option (List Key)
  | .tup l => keysD l
  | _ => none
theorem keys_v {S : Hp} : ∀ {l : List D} {vs : List V} {k : List Key}, RepL K S l vs → keysD l = some k → vs = k.map kV
  | [], vs, k, h, e => by
    have h : vs = [] := h
    cases (show some _ = some _ from e)
    exact h
  | d :: l, vs, k, h, e => by
    obtain ⟨v, r, rfl, h1, h2⟩ := h
    unfold keysD at e
    cases e1 : keyD d with
    | none => rw [e1] at e; cases e
    | some a =>
      cases e2 : keysD l with
      | none => rw [e1, e2] at e; cases e
      | some b =>
        rw [e1, e2] at e
        cases e
        rw [key_v h1 e1, keys_v h2 e2]
        rfl
theorem tkey_v {S : Hp} {μ : Mem} {H : Hp} (r : R3 K S μ H) {d : D} {v : V} {k : List Key} (h : Rep K S d v) (e : tkey d = some k) : ∃ b, v = .ref b ∧ H b = some (.tup (k.map kV)) := by
  cases d with
  | tup l =>
    obtain ⟨a, vs, rfl, h1, h2⟩ := h
    have e2 := keys_v h2 (show keysD l = some k from e)
    subst e2
    rcases r.ex.at h1 trivial with q | ⟨q, _⟩
    · exact ⟨a, rfl, q⟩
    · exact q.elim
  | _ => cases e
/-- a cell that holds such a dict -/
def dicT (μ : Mem) : D → Option (List (List Key × D))
  | .ref p => match μ p with
    | some (.dcT l) => some l
    | some (.lckT _ _ l) => some l
    | _ => none
  | _ => none
theorem dict_is {S : Hp} {μ : Mem} {H : Hp} (r : R3 K S μ H) {d : D} {v : V} {l : List (List Key × D)} (h : Rep K S d v) (e : dicT μ d = some l) : ∃ a vs, v = .ref a ∧ Rd H a (.dT vs) ∧ RepT K S l vs := by
  cases d with
  | ref p =>
    have h : v = .ref p := h
    unfold dicT at e
    dsimp only at e
    split at e
    · cases e
      rename_i hm
      obtain ⟨_, o, h1, vs, rfl, h2⟩ := r.mu p _ hm
      exact ⟨p, vs, h, .inl h1, h2⟩
    · cases e
      rename_i od kvs hm
      obtain ⟨_, o, h1, rfl, h2⟩ := r.mu p _ hm
      exact ⟨p, kvs, h, .inr ⟨od, h1⟩, h2⟩
    · cases e
  | _ => cases (show none = some _ from e)
def valT (l : List (List Key × D)) (k : List Key) : Option D := (l.find? fun kv => decide (kv.1 = k)).map (·.2)
def putTD (l : List (List Key × D)) (k : List Key) (d : D) : List (List Key × D) := if (l.any fun kv => decide (kv.1 = k)) = true then l.map (fun kv => if kv.1 = k then (kv.1, d) else kv) else l ++ [(k, d)]
theorem RepT.val {S : Hp} {k : List Key} : ∀ {l : List (List Key × D)} {vs : List (List Key × V)}, RepT K S l vs → (∀ d, valT l k = some d → ∃ v, valV vs k = some v ∧ Rep K S d v) ∧ (valT l k = none → valV vs k = none)
  | [], vs, h => by
    have h : vs = [] := h
    subst h
    exact ⟨(fun d e => nomatch e), fun _ => rfl⟩
  | (j, d) :: l, vs, h => by
    obtain ⟨v, r, rfl, h1, h2⟩ := h
    have ih := RepT.val (k := k) h2
    by_cases e : j = k
    · rw [valV_pos (p := (j, v)) e]
      have e2 : valT ((j, d) :: l) k = some d := by simp [valT, List.find?_cons, e]
      rw [e2]
      refine ⟨fun d' z => ?_, fun z => nomatch z⟩
      cases z
      exact ⟨v, rfl, h1⟩
    · rw [valV_neg (p := (j, v)) e]
      have e2 : valT ((j, d) :: l) k = valT l k := by simp [valT, List.find?_cons, e]
      rw [e2]
      exact ih
theorem RepT.any {S : Hp} {k : List Key} : ∀ {l : List (List Key × D)} {vs : List (List Key × V)}, RepT K S l vs → (l.any fun kv => decide (kv.1 = k)) = (vs.any fun kv => decide (kv.1 = k))
  | [], vs, h => by have h : vs = [] := h; subst h; rfl
  | (j, d) :: l, vs, h => by
    obtain ⟨v, r, rfl, h1, h2⟩ := h
    rw [List.any_cons, List.any_cons, RepT.any h2]
theorem RepT.len {S : Hp} : ∀ {l : List (List Key × D)} {vs : List (List Key × V)}, RepT K S l vs → vs.length = l.length
  | [], vs, h => by have h : vs = [] := h; subst h; rfl
  | (j, d) :: l, vs, h => by
    obtain ⟨v, r, rfl, h1, h2⟩ := h
    rw [List.length_cons, List.length_cons, RepT.len h2]
theorem RepT.map {S : Hp} {k : List Key} {d : D} {v : V} (hd : Rep K S d v) : ∀ {l : List (List Key × D)} {vs : List (List Key × V)}, RepT K S l vs → RepT K S (l.map fun kv => if kv.1 = k then (kv.1, d) else kv) (vs.map fun kv => if kv.1 = k then (kv.1, v) else kv)
  | [], vs, h => by have h : vs = [] := h; subst h; rfl
  | (j, e) :: l, vs, h => by
    obtain ⟨u, r, rfl, h1, h2⟩ := h
    rw [List.map_cons, List.map_cons]
    by_cases hj : j = k
    · rw [if_pos hj, if_pos hj]; exact ⟨v, _, rfl, hd, RepT.map hd h2⟩
    · rw [if_neg hj, if_neg hj]; exact ⟨u, _, rfl, h1, RepT.map hd h2⟩
theorem RepT.snoc {S : Hp} {k : List Key} {d : D} {v : V} (hd : Rep K S d v) : ∀ {l : List (List Key × D)} {vs : List (List Key × V)}, RepT K S l vs → RepT K S (l ++ [(k, d)]) (vs ++ [(k, v)])
  | [], vs, h => by have h : vs = [] := h; subst h; exact ⟨v, [], rfl, hd, rfl⟩
  | (j, e) :: l, vs, h => by
    obtain ⟨u, r, rfl, h1, h2⟩ := h
    exact ⟨u, _, rfl, h1, RepT.snoc hd h2⟩
theorem RepT.put {S : Hp} {k : List Key} {d : D} {v : V} {l : List (List Key × D)} {vs : List (List Key × V)} (hd : Rep K S d v) (h : RepT K S l vs) : RepT K S (putTD l k d) (putK vs k v) := by
  unfold putTD putK
  rw [RepT.any h]
  split
  · exact RepT.map hd h
  · exact RepT.snoc hd h
/-- {} -/
def dDicTM : DE := fun δ μ Q => ∀ p, μ p = none → Q (.ref p) δ (updM μ p (.dcT []))
theorem d_dicTM {pos : Pos} : PD K Z X (.Dict [] [] pos) tDNewT dDicTM := ⟨pe_dnewT, fun B hB S μ H σ δ Q QD rl k q => fun p hp => by
  obtain ⟨r2, g⟩ := rl.r3.cell (o := .dT []) (m := .dcT []) hp ⟨[], rfl, rfl⟩
  exact k S _ _ δ _ (.ref p) (Ex.refl S) (rl.grow g r2) rfl (q p (rl.r3.free hp).2)⟩
/-- d[k] -/
def dGetT (da db : DE) : DE := fun δ μ Q => da δ μ fun x δ1 μ1 => db δ1 μ1 fun y δ2 μ2 => ∃ l k d, dicT μ2 x = some l ∧ tkey y = some k ∧ valT l k = some d ∧ Q d δ2 μ2
theorem d_getT {o i : Expr} {pos : Pos} {ta tb : TE} {da db : DE} (hu : X.A.units + 1 < cLine) (ho : PD K Z X o ta da) (hi : PD K Z X i tb db) (hs : NoSl i := by intro _ _; rfl) : PD K Z X (.Subscript o i pos) (tDGet ta tb) (dGetT da db) := ⟨pe_dget hu ho.p hi.p hs, fun B hB S μ H σ δ Q QD rl k q => by
  refine ho.s B hB S μ H σ δ _ _ rl (fun S1 μ1 H1 δ1 x dx e1 r1 hx q1 => ?_) q
  refine hi.s B hB S1 μ1 H1 σ δ1 _ _ r1 (fun S2 μ2 H2 δ2 y dy e2 r2 hy q2 => ?_) q1
  obtain ⟨l, kk, d, h1, h2, h3, q2⟩ := q2
  obtain ⟨a, vs, rfl, h4, h5⟩ := dict_is r2.r3 (Rep.mono e2 _ _ hx) h1
  obtain ⟨v, h6, h7⟩ := (RepT.val h5).1 d h3
  obtain ⟨b, rfl, hb⟩ := tkey_v r2.r3 hy h2
  exact ⟨a, v, rfl, .inr ⟨vs, kk, b, h4, rfl, hb, h6.symm⟩, k S2 μ2 H2 δ2 v d (e1.trans e2) r2 h7 q2⟩⟩
/-- d[k] = v -/
def dPutT (da db de : DE) : DS := fun DD δ μ => de δ μ fun d δ1 μ1 => da δ1 μ1 fun x δ2 μ2 => db δ2 μ2 fun y δ3 μ3 => ∃ p l k, x = .ref p ∧ μ3 p = some (.dcT l) ∧ tkey y = some k ∧ l.length < sizeLine ∧ DD.nx δ3 (updM μ3 p (.dcT (putTD l k d)))
theorem s_putT {o i e : Expr} {pos p2 : Pos} {ta tb te : TE} {da db de : DE} (hu : X.A.units + 1 < cLine) (ho : PD K Z X o ta da) (hi : PD K Z X i tb db) (he : PD K Z X e te de) (hs : swapsWith e (some (.Subscript o i p2)) pos.line X.env = pure false := by rfl) : PDS K Z X (.Assign [.Subscript o i p2] e pos) (sDPut ta tb te) (dPutT da db de) := ⟨ps_dput hu ho.p hi.p he.p hs, fun B hB S μ H σ δ E DD rl lf q => by
  refine he.s B hB S μ H σ δ _ _ rl (fun S1 μ1 H1 δ1 v d e1 r1 hv q1 => ?_) q
  refine ho.s B hB S1 μ1 H1 σ δ1 _ _ r1 (fun S2 μ2 H2 δ2 x dx e2 r2 hx q2 => ?_) q1
  refine hi.s B hB S2 μ2 H2 σ δ2 _ _ r2 (fun S3 μ3 H3 δ3 y dy e3 r3 hy q3 => ?_) q2
  obtain ⟨p, l, k, rfl, hm, h2, hl, q3⟩ := q3
  have hx : x = .ref p := hx
  subst hx
  obtain ⟨_, o', h3, vs, rfl, h4⟩ := r3.r3.mu p _ hm
  obtain ⟨b, rfl, hb⟩ := tkey_v r3.r3 hy h2
  obtain ⟨r4, g⟩ := r3.r3.write hm (o := .dT (putK vs k v)) (m := .dcT (putTD l k d)) ⟨_, rfl, RepT.put (Rep.mono e3 _ _ (Rep.mono e2 _ _ hv)) h4⟩
  exact ⟨p, _, rfl, .inr ⟨vs, k, b, h3, rfl, hb, by rw [RepT.len h4]; exact hl, rfl⟩, lf.nx _ _ _ σ δ3 (r3.grow g r4) q3⟩⟩
/-- d.get(k, x) -/
def dGetDT (da db dx : DE) : DE := fun δ μ Q => da δ μ fun x δ1 μ1 => (∃ l, dicT μ1 x = some l) ∧ db δ1 μ1 fun y δ2 μ2 => dx δ2 μ2 fun z δ3 μ3 => ∃ l k, dicT μ3 x = some l ∧ tkey y = some k ∧ Q ((valT l k).getD z) δ3 μ3
def rdInT (neg : Bool) : DR := fun y x μ Q => ∃ l k, dicT μ x = some l ∧ tkey y = some k ∧ Q (.bl (if neg then !(valT l k).isSome else (valT l k).isSome)) μ
/-! ### a tuple of the heap comes to be known -/
def tkD (k : List Key) : D := .tup (k.map kD)
/-! ### such a dict is locked while it is walked -/
def dLockT (ds : DS) : DS := fun DD δ μ => ∃ p l, μ p = some (.dcT l) ∧ ∀ od kvs, ds ⟨fun δ' μ' => μ' p = some (.lckT od kvs l) ∧ DD.nx δ' (updM μ' p (.dcT l)), fun v μ' => μ' p = some (.lckT od kvs l) ∧ DD.rt v (updM μ' p (.dcT l)), fun δ' μ' => μ' p = some (.lckT od kvs l) ∧ DD.bk δ' (updM μ' p (.dcT l)), fun δ' μ' => μ' p = some (.lckT od kvs l) ∧ DD.ct δ' (updM μ' p (.dcT l))⟩ δ (updM μ p (.lckT od kvs l))
def dLockET (de : DE) : DE := fun δ μ Q => ∃ p l, μ p = some (.dcT l) ∧ ∀ od kvs, de δ (updM μ p (.lckT od kvs l)) fun d δ' μ' => μ' p = some (.lckT od kvs l) ∧ Q d δ' (updM μ' p (.dcT l))
def diKeysT (de : DE) : DI := fun δ μ Q => de δ μ fun x δ1 μ1 => ∃ p od kvs l, x = .ref p ∧ μ1 p = some (.lckT od kvs l) ∧ Q (l.map fun q => tkD q.1) (fun μ => μ p = some (.lckT od kvs l)) δ1 μ1
/-! ### steps -/
section
variable {δ : Ss} {μ : Mem} {Q : D → Ss → Mem → Prop} {QM' : QM} {nx bk ct : Ss → Mem → Prop} {rt : QM}
instance st_dicTM : Step (dDicTM δ μ Q) (∀ p, μ p = none → Q (.ref p) δ (updM μ p (.dcT []))) := ⟨id⟩
instance st_getT {da db : DE} : Step (dGetT da db δ μ Q) (da δ μ fun x δ1 μ1 => db δ1 μ1 fun y δ2 μ2 => ∃ l k d, dicT μ2 x = some l ∧ tkey y = some k ∧ valT l k = some d ∧ Q d δ2 μ2) := ⟨id⟩
instance st_putT {da db de : DE} : Step (dPutT da db de ⟨nx, rt, bk, ct⟩ δ μ) (de δ μ fun d δ1 μ1 => da δ1 μ1 fun x δ2 μ2 => db δ2 μ2 fun y δ3 μ3 => ∃ p l k, x = .ref p ∧ μ3 p = some (.dcT l) ∧ tkey y = some k ∧ l.length < sizeLine ∧ nx δ3 (updM μ3 p (.dcT (putTD l k d)))) := ⟨id⟩
instance st_getDT {da db dx : DE} : Step (dGetDT da db dx δ μ Q) (da δ μ fun x δ1 μ1 => (∃ l, dicT μ1 x = some l) ∧ db δ1 μ1 fun y δ2 μ2 => dx δ2 μ2 fun z δ3 μ3 => ∃ l k, dicT μ3 x = some l ∧ tkey y = some k ∧ Q ((valT l k).getD z) δ3 μ3) := ⟨id⟩
instance st_lockT {ds : DS} {DD : DEnds} : Step (dLockT ds DD δ μ) (∃ p l, μ p = some (.dcT l) ∧ ∀ od kvs, ds ⟨fun δ' μ' => μ' p = some (.lckT od kvs l) ∧ DD.nx δ' (updM μ' p (.dcT l)), fun v μ' => μ' p = some (.lckT od kvs l) ∧ DD.rt v (updM μ' p (.dcT l)), fun δ' μ' => μ' p = some (.lckT od kvs l) ∧ DD.bk δ' (updM μ' p (.dcT l)), fun δ' μ' => μ' p = some (.lckT od kvs l) ∧ DD.ct δ' (updM μ' p (.dcT l))⟩ δ (updM μ p (.lckT od kvs l))) := ⟨id⟩
instance st_lockET {de : DE} : Step (dLockET de δ μ Q) (∃ p l, μ p = some (.dcT l) ∧ ∀ od kvs, de δ (updM μ p (.lckT od kvs l)) fun d δ' μ' => μ' p = some (.lckT od kvs l) ∧ Q d δ' (updM μ' p (.dcT l))) := ⟨id⟩
instance st_diKeysT {de : DE} {R : List D → (Mem → Prop) → Ss → Mem → Prop} : Step (diKeysT de δ μ R) (de δ μ fun x δ1 μ1 => ∃ p od kvs l, x = .ref p ∧ μ1 p = some (.lckT od kvs l) ∧ R (l.map fun q => tkD q.1) (fun μ => μ p = some (.lckT od kvs l)) δ1 μ1) := ⟨id⟩
instance st_inT {neg : Bool} {y x : D} : Step (rdInT neg y x μ QM') (∃ l k, dicT μ x = some l ∧ tkey y = some k ∧ QM' (.bl (if neg then !(valT l k).isSome else (valT l k).isSome)) μ) := ⟨id⟩
theorem dicT_ref {p : Addr} {l : List (List Key × D)} (h : μ p = some (.dcT l)) : dicT μ (.ref p) = some l := by unfold dicT; dsimp only; rw [h]
end
end Dl
local macro_rules | `(tactic| walk_at "st") => `(tactic| first | (refine Dl.Step.by ?_) | (with_reducible refine Dl.i_gtup rfl ?_) | (with_reducible refine Dl.i_glst rfl ?_) | (refine Dl.kw_c rfl rfl rfl ?_) | (with_reducible refine Dl.i_lenR (by assumption) ?_) | (with_reducible refine Dl.i_ixR (by assumption) rfl ?_) | (with_reducible refine Dl.i_listR (by assumption) ?_) | (with_reducible refine Dl.i_slR (by assumption) ?_) | (with_reducible refine Dl.is_l (by assumption) ?_) | (with_reducible refine Dl.i_excell (by assumption) ?_) | (with_reducible refine Dl.wk_r (by assumption) ?_) | ((with_reducible refine Dl.i_mod ?hc ?_); (case hc => omega)) | ((with_reducible refine Dl.i_div ?hc ?_); (case hc => exact Dl.cd2 (by omega) (by omega))) | ((with_reducible refine Dl.i_mulI ?hc ?_); (case hc => exact Dl.cm2 (by omega) (by omega) (by omega) (by omega))) | ((with_reducible refine Dl.i_pow ?hc ?_); (case hc => exact Dl.cp2 (by omega) (by omega) (by omega) (by omega))) | ((with_reducible refine Dl.i_exr1 ?hc ?hd ?_); (case hc => omega); (case hd => omega)) | refine Dl.i_sz rfl ?_ | refine Dl.i_ss rfl ?_)
local macro_rules | `(tactic| walk_at "wp") => `(tactic| simp only [Dl.wipeD, List.set_cons_zero, List.set_cons_succ])
local macro_rules | `(tactic| walk_at "le") => `(tactic| (first | exact ⟨rfl, rfl⟩ | simp only [Dl.Le, and_self, and_true, true_and]))
local macro_rules | `(tactic| walk_at "go") => `(tactic| repeat walk_at "st")
local macro_rules | `(tactic| walk_at "om") => `(tactic| first | omega | ((repeat (first | rw [Dl.slen_app] | rw [Dl.slen_one] | rw [Dl.slen_to _ _ (by omega)] | rw [Dl.slen_from _ _ (by omega)])); omega))
local macro_rules | `(tactic| walk_at "a1") => `(tactic| first | walk_at "st" | (with_reducible refine Dl.kw_c rfl rfl rfl ?_) | (with_reducible refine Dl.ite_nd (fun _ => ?_) (fun _ => ?_)) | (with_reducible refine Dl.ite_d (fun _ => ?_) (fun _ => ?_)) | (with_reducible refine Dl.ite_nb (fun _ => ?_) (fun _ => ?_)) | (with_reducible refine Dl.ite_b (fun _ => ?_) (fun _ => ?_)) | (with_reducible intro _) | (with_reducible apply Exists.intro) | (with_reducible refine ⟨rfl, ?_⟩) | (with_reducible refine ⟨by walk_at "om", ?_⟩) | (with_reducible refine ⟨by assumption, ?_⟩) | (with_reducible refine ⟨fun _ => ?_, ?_⟩) | fail)
local macro_rules | `(tactic| walk_at "au") => `(tactic| repeat' walk_at "a1")
namespace Pf
open PySem PySem.Spec PyProof.Rows L2 Dl
open Evl (sz_of sz_lt)
structure Txt (K : PySem.W.Frag) (mg : Str → Option Value) (w : World) : Prop where
  d__law_mixed : At K mg "_law_mixed" s__law_mixed []
  d__law_next : At K mg "_law_next" s__law_next []
  d__law_word : At K mg "_law_word" s__law_word []
  d__law_words : At K mg "_law_words" s__law_words []
  d__law_calls : At K mg "_law_calls" s__law_calls []
  d__law_day : At K mg "_law_day" s__law_day []
  d__law_level : At K mg "_law_level" s__law_level []
  d__law_told : At K mg "_law_told" s__law_told []
  d_is_number : At K mg "is_number" s_is_number []
  d_ask_worth : At K mg "ask_worth" s_ask_worth []
  d_is_name : At K mg "is_name" s_is_name []
  d_ask_name : At K mg "ask_name" s_ask_name []
  d__law_build : At K mg "_law_build" s__law_build []
  d_rank : At K mg "rank" s_rank []
  d_ordered : At K mg "ordered" s_ordered []
  d_calls_in : At K mg "calls_in" s_calls_in []
  d_sets_of : At K mg "sets_of" s_sets_of []
  d_strength : At K mg "strength" s_strength []
  d_form : At K mg "form" s_form []
  d__law_form_sound : At K mg "_law_form_sound" s__law_form_sound []
  d_term_of : At K mg "term_of" s_term_of []
  d__law_pair : At K mg "_law_pair" s__law_pair []
  d__law_written : At K mg "_law_written" s__law_written []
  d__law_alike : At K mg "_law_alike" s__law_alike []
  d_day_beside : At K mg "day_beside" s_day_beside []
  d_book_of : At K mg "book_of" s_book_of []
  d_parted : At K mg "parted" s_parted []
  d__law_call_worth : At K mg "_law_call_worth" s__law_call_worth []
  d__law_worth : At K mg "_law_worth" s__law_worth []
  d__law_unlike_in : At K mg "_law_unlike_in" s__law_unlike_in []
  d_law : At K mg "law" s_law []
  d_Level_rules : AtM K "Level" "rules" "Term.rules" s_Level_rules []
  d_Called_rules : AtM K "Called" "rules" "Term.rules" s_Called_rules []
  d_Least_rules : AtM K "Least" "rules" "Mixed.rules" s_Least_rules []
  d_Greatest_rules : AtM K "Greatest" "rules" "Mixed.rules" s_Greatest_rules []
  d_Level_deep : AtM K "Level" "deep" "Term.deep" s_Level_deep []
  d_Called_deep : AtM K "Called" "deep" "Term.deep" s_Called_deep []
  d_Least_deep : AtM K "Least" "deep" "Mixed.deep" s_Least_deep []
  d_Greatest_deep : AtM K "Greatest" "deep" "Mixed.deep" s_Greatest_deep []
  d_Level___init__ : AtI K mg "Level" "Level.__init__" s_Level___init__ []
  d_Called___init__ : AtI K mg "Called" "Called.__init__" s_Called___init__ [.non]
  d_Least___init__ : AtI K mg "Least" "Mixed.__init__" s_Least___init__ []
  d_Greatest___init__ : AtI K mg "Greatest" "Mixed.__init__" s_Greatest___init__ []
  b_all : mg "all" = none
  b_bool : mg "bool" = none
  b_int : mg "int" = none
  b_isinstance : mg "isinstance" = none
  b_len : mg "len" = none
  b_max : mg "max" = none
  b_min : mg "min" = none
  b_range : mg "range" = none
  b_sorted : mg "sorted" = none
  b_str : mg "str" = none
  b_sum : mg "sum" = none
  b_tuple : mg "tuple" = none
  g_MOST_CALLS : ∃ t, mg "MOST_CALLS" = some (.int 6 t)
  g_MOST_DEEP : ∃ t, mg "MOST_DEEP" = some (.int 8 t)
  g_MOST_RULES : ∃ t, mg "MOST_RULES" = some (.int 60 t)
  g_TOP : ∃ t, mg "TOP" = some (.int 1000000 t)
  cl_Called : Cls K (He.ga K "Called")
  cl_Greatest : Cls K (He.ga K "Greatest")
  cl_Least : Cls K (He.ga K "Least")
  cl_Level : Cls K (He.ga K "Level")
  na_Called_town : NoAttr K (He.ga K "Called") "town"
  na_Called_when : NoAttr K (He.ga K "Called") "when"
  na_Greatest_terms : NoAttr K (He.ga K "Greatest") "terms"
  na_Least_terms : NoAttr K (He.ga K "Least") "terms"
  na_Level_level : NoAttr K (He.ga K "Level") "level"
  ec_NoDay : Ec K mg "NoDay"
  ec_NoName : Ec K mg "NoName"
  ec_NoTerm : Ec K mg "NoTerm"
  ec_NoWorth : Ec K mg "NoWorth"
  ec_TooMany : Ec K mg "TooMany"
  gc_Called : mg "Called" = some (.ref (He.ga K "Called"))
  gc_Least : mg "Least" = some (.ref (He.ga K "Least"))
  gc_Level : mg "Level" = some (.ref (He.ga K "Level"))
  gc___builtins__ : mg "__builtins__" = some (.ref (He.ga K "__builtins__"))
  gc_rank : mg "rank" = some (.ref (He.ga K "rank"))
  cs : Css K exs objs
  lb : lamB lqs K = true
abbrev o_Level (a0 : D) : List (Str × D) := [("level", a0)]
theorem lk_Level_level {a0 : D} : List.lookup ("level" : Str) (o_Level a0) = some a0 := by kernel_rfl
instance of_Level_level {a0 : D} {μ : Mem} {R : D → Prop} : Step (OfF "Level" "level" (.obj "Level" [("level", a0)]) μ R) (R a0) := ⟨fun h => off_obj lk_Level_level h⟩
theorem pt_Level_level {a0 : D} : putD "level" a0 [] = ([("level", a0)] : List (Str × D)) := by first | kernel_rfl | (simp [putD]; done)
theorem nm_Level_rules {a0 : D} : List.lookup ("rules" : Str) (o_Level a0) = none := by kernel_rfl
instance on_Level_rules {a0 : D} {μ : Mem} {R : Prop} : Step (OnM "Level" "rules" (.obj "Level" [("level", a0)]) μ R) R := ⟨fun h => onm_obj nm_Level_rules h⟩
theorem nm_Level_deep {a0 : D} : List.lookup ("deep" : Str) (o_Level a0) = none := by kernel_rfl
instance on_Level_deep {a0 : D} {μ : Mem} {R : Prop} : Step (OnM "Level" "deep" (.obj "Level" [("level", a0)]) μ R) R := ⟨fun h => onm_obj nm_Level_deep h⟩
abbrev o_Called (a0 a1 : D) : List (Str × D) := [("when", a0), ("town", a1)]
theorem lk_Called_when {a0 a1 : D} : List.lookup ("when" : Str) (o_Called a0 a1) = some a0 := by kernel_rfl
instance of_Called_when {a0 a1 : D} {μ : Mem} {R : D → Prop} : Step (OfF "Called" "when" (.obj "Called" [("when", a0), ("town", a1)]) μ R) (R a0) := ⟨fun h => off_obj lk_Called_when h⟩
theorem pt_Called_when {a0 : D} : putD "when" a0 [] = ([("when", a0)] : List (Str × D)) := by first | kernel_rfl | (simp [putD]; done)
theorem lk_Called_town {a0 a1 : D} : List.lookup ("town" : Str) (o_Called a0 a1) = some a1 := by kernel_rfl
instance of_Called_town {a0 a1 : D} {μ : Mem} {R : D → Prop} : Step (OfF "Called" "town" (.obj "Called" [("when", a0), ("town", a1)]) μ R) (R a1) := ⟨fun h => off_obj lk_Called_town h⟩
theorem pt_Called_town {a0 a1 : D} : putD "town" a1 [("when", a0)] = ([("when", a0), ("town", a1)] : List (Str × D)) := by first | kernel_rfl | (simp [putD]; done)
theorem nm_Called_rules {a0 a1 : D} : List.lookup ("rules" : Str) (o_Called a0 a1) = none := by kernel_rfl
instance on_Called_rules {a0 a1 : D} {μ : Mem} {R : Prop} : Step (OnM "Called" "rules" (.obj "Called" [("when", a0), ("town", a1)]) μ R) R := ⟨fun h => onm_obj nm_Called_rules h⟩
theorem nm_Called_deep {a0 a1 : D} : List.lookup ("deep" : Str) (o_Called a0 a1) = none := by kernel_rfl
instance on_Called_deep {a0 a1 : D} {μ : Mem} {R : Prop} : Step (OnM "Called" "deep" (.obj "Called" [("when", a0), ("town", a1)]) μ R) R := ⟨fun h => onm_obj nm_Called_deep h⟩
abbrev o_Least (a0 : D) : List (Str × D) := [("terms", a0)]
theorem lk_Least_terms {a0 : D} : List.lookup ("terms" : Str) (o_Least a0) = some a0 := by kernel_rfl
instance of_Least_terms {a0 : D} {μ : Mem} {R : D → Prop} : Step (OfF "Least" "terms" (.obj "Least" [("terms", a0)]) μ R) (R a0) := ⟨fun h => off_obj lk_Least_terms h⟩
theorem pt_Least_terms {a0 : D} : putD "terms" a0 [] = ([("terms", a0)] : List (Str × D)) := by first | kernel_rfl | (simp [putD]; done)
theorem nm_Least_rules {a0 : D} : List.lookup ("rules" : Str) (o_Least a0) = none := by kernel_rfl
instance on_Least_rules {a0 : D} {μ : Mem} {R : Prop} : Step (OnM "Least" "rules" (.obj "Least" [("terms", a0)]) μ R) R := ⟨fun h => onm_obj nm_Least_rules h⟩
theorem nm_Least_deep {a0 : D} : List.lookup ("deep" : Str) (o_Least a0) = none := by kernel_rfl
instance on_Least_deep {a0 : D} {μ : Mem} {R : Prop} : Step (OnM "Least" "deep" (.obj "Least" [("terms", a0)]) μ R) R := ⟨fun h => onm_obj nm_Least_deep h⟩
abbrev o_Greatest (a0 : D) : List (Str × D) := [("terms", a0)]
theorem lk_Greatest_terms {a0 : D} : List.lookup ("terms" : Str) (o_Greatest a0) = some a0 := by kernel_rfl
instance of_Greatest_terms {a0 : D} {μ : Mem} {R : D → Prop} : Step (OfF "Greatest" "terms" (.obj "Greatest" [("terms", a0)]) μ R) (R a0) := ⟨fun h => off_obj lk_Greatest_terms h⟩
theorem pt_Greatest_terms {a0 : D} : putD "terms" a0 [] = ([("terms", a0)] : List (Str × D)) := by first | kernel_rfl | (simp [putD]; done)
theorem nm_Greatest_rules {a0 : D} : List.lookup ("rules" : Str) (o_Greatest a0) = none := by kernel_rfl
instance on_Greatest_rules {a0 : D} {μ : Mem} {R : Prop} : Step (OnM "Greatest" "rules" (.obj "Greatest" [("terms", a0)]) μ R) R := ⟨fun h => onm_obj nm_Greatest_rules h⟩
theorem nm_Greatest_deep {a0 : D} : List.lookup ("deep" : Str) (o_Greatest a0) = none := by kernel_rfl
instance on_Greatest_deep {a0 : D} {μ : Mem} {R : Prop} : Step (OnM "Greatest" "deep" (.obj "Greatest" [("terms", a0)]) μ R) R := ⟨fun h => onm_obj nm_Greatest_deep h⟩
/-! ### the draw -/
structure Scr (a : D) (ns : List Int) : Prop where
  is : a = .scr (ns.map .int) ∨ a = .lst (ns.map .int)
theorem Scr.seq {a : D} {ns : List Int} (h : Scr a ns) (μ : Mem) : seqOf μ a = some (ns.map .int) := by
  rcases h.is with rfl | rfl <;> rfl
theorem pds_ints : ∀ ns : List Int, pds (ns.map D.int) = some (ns.map PyData.int)
  | [] => rfl
  | n :: ns => by
    show (pd (.int n)).bind (fun x => (pds (ns.map D.int)).map (x :: ·)) = _
    rw [pds_ints ns]; rfl
theorem lay_ints : ∀ ns : List Int, PyData.canLayAll0 (ns.map PyData.int) = true
  | [] => by simp [PyData.canLayAll0]
  | n :: ns => by simp [PyData.canLayAll0, PyData.canLay0, lay_ints ns]
theorem dep_ints : ∀ ns : List Int, PyData.depthAll (ns.map PyData.int) ≤ 1
  | [] => by simp [PyData.depthAll]
  | n :: ns => by
    have := dep_ints ns
    simp [PyData.depthAll, PyData.depth]
    omega
theorem cps_app (a b : Str) : (a ++ b).cps.toList = a.cps.toList ++ b.cps.toList := TL.tl_append a b
theorem len_cps (a : Str) : a.length = a.cps.toList.length := by simp [Str.length]
theorem cps_cut (z : Str) (lo hi : Option Int) : ∀ c ∈ (cutS z lo hi).cps.toList, c ∈ z.cps.toList := fun c h => by
  unfold cutS at h
  simp only at h
  exact List.mem_of_mem_drop (List.mem_of_mem_take h)
/-- all signs of a text -/
def Al (P : Nat → Prop) (z : Str) : Prop := ∀ c ∈ z.cps.toList, P c
theorem Al.app {P : Nat → Prop} {a b : Str} (h1 : Al P a) (h2 : Al P b) : Al P (a ++ b) := fun c h => by
  rw [cps_app] at h
  rcases List.mem_append.mp h with h | h
  · exact h1 c h
  · exact h2 c h
theorem Al.cut {P : Nat → Prop} {z : Str} (h : Al P z) (lo hi : Option Int) : Al P (cutS z lo hi) := fun c hc => h c (cps_cut z lo hi c hc)
theorem Al.imp {P P' : Nat → Prop} {z : Str} (h : Al P z) (k : ∀ c, P c → P' c) : Al P' z := fun c hc => k c (h c hc)
theorem Al.one {P : Nat → Prop} {c : Nat} (h : P c) : Al P ⟨#[c]⟩ := fun d hd => by
  have e : d = c := by simpa using hd
  rw [e]; exact h
abbrev Cp (c : Nat) : Prop := c < 0x110000
abbrev abc : Str := "abcdefghijklmnopqrstuvwxyz"
def letter (c : Nat) : Bool := decide (c ∈ abc.cps.toList)
def isName (z : Str) : Bool := decide (1 ≤ z.length ∧ z.length ≤ 8) && z.cps.toList.all letter
theorem signs_get {z : Str} {i : Nat} {d : D} (h : (Dl.signs z)[i]? = some d) : ∃ c, z.cps.toList[i]? = some c ∧ d = .str ⟨#[c]⟩ := by
  unfold Dl.signs at h
  rw [List.getElem?_map] at h
  cases e : z.cps.toList[i]? with
  | none => rw [e] at h; cases h
  | some c => rw [e] at h; exact ⟨c, rfl, (Option.some.inj h).symm⟩
theorem take_succ_get {α : Type} {l : List α} {i : Nat} {c : α} (h : l[i]? = some c) : l.take (i + 1) = l.take i ++ [c] := by
  rw [List.take_add_one, h]; rfl
theorem letter_cp {c : Nat} (h : letter c = true) : Cp c := of_decide_eq_true (List.all_eq_true.mp (show abc.cps.toList.all (fun c => decide (c < 0x110000)) = true by decide +kernel) c (of_decide_eq_true h))
theorem isName_of {z : Str} (h1 : 1 ≤ z.length) (h2 : z.length ≤ 8) (h : Al (fun c => letter c = true) z) : isName z = true := by
  unfold isName
  rw [decide_eq_true ⟨h1, h2⟩, Bool.true_and]
  exact List.all_eq_true.mpr h
theorem name_len {z : Str} (h : isName z = true) : 1 ≤ z.length ∧ z.length ≤ 8 := by
  unfold isName at h
  exact of_decide_eq_true (Bool.and_eq_true_iff.mp h).1
theorem name_al {z : Str} (h : isName z = true) : Al (fun c => letter c = true) z := by
  unfold isName at h
  exact List.all_eq_true.mp (Bool.and_eq_true_iff.mp h).2
theorem name_cp {z : Str} (h : isName z = true) : Al Cp z := (name_al h).imp fun _ => letter_cp
/-- a whole number within bounds, no truth -/
def numOk (lo hi : Int) : D → Option Bool
  | .int i => some (decide (lo ≤ i ∧ i ≤ hi))
  | .bl _ => some false
  | _ => none
theorem numOk_int {lo hi i : Int} (h1 : lo ≤ i) (h2 : i ≤ hi) : numOk lo hi (.int i) = some true := by
  show some (decide _) = _
  rw [decide_eq_true ⟨h1, h2⟩]
theorem letter_at {n c : Nat} (h : abc.cps.toList[n]? = some c) : letter c = true := decide_eq_true (List.mem_of_getElem? h)
theorem al_at {P : Nat → Prop} {z : Str} {n c : Nat} (h : Al P z) (e : z.cps.toList[n]? = some c) : P c := h c (List.mem_of_getElem? e)
theorem abc_len : (Str.ofString "abcdefghijklmnopqrstuvwxyz").length = 26 := by decide +kernel
theorem Al.nil {P : Nat → Prop} : Al P "" := fun c h => absurd h (by rw [show (Str.ofString "").cps.toList = [] from by decide +kernel]; exact List.not_mem_nil)
local macro_rules | `(tactic| walk_at "al") => `(tactic| first | assumption | exact name_al (by assumption) | exact Al.nil | (exact Al.one (letter_at (by assumption))) | (exact Al.one (al_at (name_al (by assumption)) (by assumption))) | (refine Al.app ?_ ?_ <;> walk_at "al") | (refine Al.cut ?_ _ _; walk_at "al"))
local macro_rules | `(tactic| walk_at "nm") => `(tactic| first | assumption | (refine isName_of ?_ ?_ ?_ <;> first | walk_at "om" | walk_at "al"))
theorem fil_ge (l : List Str) : ∀ fs : List Str, l.Nodup → l.length ≤ (l.filter fun x => !decide (x ∈ fs)).length + fs.length
  | [], _ => by
    rw [List.filter_eq_self.mpr (fun x _ => by simp)]
    simp
  | f :: fs, h => by
    have ih := fil_ge l fs h
    have e : (l.filter fun x => !decide (x ∈ f :: fs)) = (l.filter fun x => !decide (x ∈ fs)).filter (fun x => !decide (x = f)) := by
      rw [List.filter_filter]
      refine List.filter_congr fun x _ => ?_
      by_cases h1 : x = f <;> by_cases h2 : x ∈ fs <;> simp [h1, h2]
    have drop1 : ∀ m : List Str, m.Nodup → m.length ≤ (m.filter fun x => !decide (x = f)).length + 1 := fun m => by
      induction m with
      | nil => intro _; simp
      | cons a m ih =>
        intro hm
        rw [List.nodup_cons] at hm
        by_cases ha : a = f
        · have : (m.filter fun x => !decide (x = f)) = m := List.filter_eq_self.mpr fun x hx => by
            have : x ≠ f := fun z => hm.1 (by rw [ha, ← z]; exact hx)
            simp [this]
          simp [ha, this]
        · have := ih hm.2
          simp [ha]
          omega
    have := drop1 _ (h.sublist (List.filter_sublist (p := fun x => !decide (x ∈ fs))))
    rw [e, List.length_cons]
    omega
theorem cut7 (z : Str) : (cutS z none (some 7)).length ≤ 7 := by
  rw [len_cps]
  unfold cutS HT.sIx
  simp
  omega
theorem inD_str {z : Str} {ys : List Str} : inD (.str z) (ys.map .str) = decide (z ∈ ys) := by
  unfold inD
  induction ys with
  | nil => simp [inV]
  | cons y ys ih =>
    have e : eqV (V.str y) (V.str z) = decide (z = y) := by
      unfold eqV
      by_cases h : z = y
      · simp [h]
      · simp [h, Ne.symm h]
    simp_all [inV, vOf]
theorem flat_strs (ys : List Str) : (ys.map D.str).all flatD = true := List.all_eq_true.mpr fun d hd => by
  obtain ⟨y, _, rfl⟩ := List.mem_map.mp hd
  rfl
theorem one_inj {a : Str} {c d : Nat} (h : a ++ (⟨#[c]⟩ : Str) = a ++ ⟨#[d]⟩) : c = d := by
  have := congrArg (fun z : Str => z.cps.toList) h
  simp only [cps_app, List.append_cancel_left_eq] at this
  simpa using this
/-- all but the cell p stays -/
def Oth (p : Addr) (μ μ' : Mem) : Prop := ∀ q, q ≠ p → μ' q = μ q
theorem Oth.refl (p : Addr) (μ : Mem) : Oth p μ μ := fun _ _ => rfl
theorem Oth.trans {p : Addr} {μ μ1 μ2 : Mem} (a : Oth p μ μ1) (b : Oth p μ1 μ2) : Oth p μ μ2 := fun q h => (b q h).trans (a q h)
theorem Oth.upd {p : Addr} {μ : Mem} {m : MO} : Oth p μ (updM μ p m) := fun _ h => updM_ne h
/-! ### a book of calls -/
structure Row where
  t : Str
  k : Str
  d : Int
  w : Int
def rowD (r : Row) : D := .tup [.str r.t, .str r.k, .int r.d, .int r.w]
structure RowOk (r : Row) : Prop where
  t : isName r.t = true
  k : isName r.k = true
  d : 0 ≤ r.d ∧ r.d ≤ 9999
  w : 0 ≤ r.w ∧ r.w ≤ 1000000
/-- what is told last for the last told day that is not behind d -/
def wStep (t k : Str) (d : Int) (s : Int × Int) (r : Row) : Int × Int := if r.t = t ∧ r.k = k ∧ s.1 ≤ r.d ∧ r.d ≤ d then (r.d, r.w) else s
def wOf (rows : List Row) (t k : Str) (d : Int) : Int := (rows.foldl (wStep t k d) (-1, 0)).2
/-! ### rules of payment -/
inductive Wh where
  | made | paid | day (n : Int)
inductive Tm where
  | lv (i : Int) | cd (w : Wh) (t : Option Str) | ls (l : List Tm) | gr (l : List Tm)
def whD : Wh → D
  | .made => .str "made"
  | .paid => .str "paid"
  | .day n => .int n
def toD : Option Str → D
  | none => .non
  | some t => .str t
mutual
def tmD : Tm → D
  | .lv i => .obj "Level" [("level", .int i)]
  | .cd w t => .obj "Called" [("when", whD w), ("town", toD t)]
  | .ls l => .obj "Least" [("terms", .tup (tmsD l))]
  | .gr l => .obj "Greatest" [("terms", .tup (tmsD l))]
def tmsD : List Tm → List D
  | [] => []
  | t :: r => tmD t :: tmsD r
end
theorem tmsD_map : ∀ l : List Tm, tmsD l = l.map tmD
  | [] => rfl
  | t :: r => by rw [tmsD, tmsD_map r]; rfl
theorem tm_lv (i : Int) : tmD (.lv i) = .obj "Level" [("level", .int i)] := by rw [tmD]
theorem tm_cd (w : Wh) (t : Option Str) : tmD (.cd w t) = .obj "Called" [("when", whD w), ("town", toD t)] := by rw [tmD]
theorem tm_ls (l : List Tm) : tmD (.ls l) = .obj "Least" [("terms", .tup (l.map tmD))] := by rw [tmD, tmsD_map]
theorem tm_gr (l : List Tm) : tmD (.gr l) = .obj "Greatest" [("terms", .tup (l.map tmD))] := by rw [tmD, tmsD_map]
/-! as tuples -/
mutual
def toldD : Tm → D
  | .lv i => .tup [.str "level", .int i]
  | .cd w t => .tup [.str "called", whD w, toD t]
  | .ls l => .tup (.str "least" :: toldsD l)
  | .gr l => .tup (.str "greatest" :: toldsD l)
def toldsD : List Tm → List D
  | [] => []
  | t :: r => toldD t :: toldsD r
end
theorem toldsD_map : ∀ l : List Tm, toldsD l = l.map toldD
  | [] => rfl
  | t :: r => by rw [toldsD, toldsD_map r]; rfl
theorem to_lv (i : Int) : toldD (.lv i) = .tup [.str "level", .int i] := by rw [toldD]
theorem to_cd (w : Wh) (t : Option Str) : toldD (.cd w t) = .tup [.str "called", whD w, toD t] := by rw [toldD]
theorem to_ls (l : List Tm) : toldD (.ls l) = .tup (.str "least" :: l.map toldD) := by rw [toldD, toldsD_map]
theorem to_gr (l : List Tm) : toldD (.gr l) = .tup (.str "greatest" :: l.map toldD) := by rw [toldD, toldsD_map]
/-! how deep, how many -/
mutual
def dp : Tm → Nat
  | .lv _ => 1
  | .cd _ _ => 1
  | .ls l => 1 + dps l
  | .gr l => 1 + dps l
def dps : List Tm → Nat
  | [] => 0
  | t :: r => max (dp t) (dps r)
end
mutual
def rul : Tm → Nat
  | .lv _ => 1
  | .cd _ _ => 1
  | .ls l => 1 + ruls l
  | .gr l => 1 + ruls l
def ruls : List Tm → Nat
  | [] => 0
  | t :: r => rul t + ruls r
end
theorem dp_lv (i : Int) : dp (.lv i) = 1 := by rw [dp]
theorem dp_cd (w : Wh) (t : Option Str) : dp (.cd w t) = 1 := by rw [dp]
theorem dp_ls (l : List Tm) : dp (.ls l) = 1 + dps l := by rw [dp]
theorem dp_gr (l : List Tm) : dp (.gr l) = 1 + dps l := by rw [dp]
theorem rul_lv (i : Int) : rul (.lv i) = 1 := by rw [rul]
theorem rul_cd (w : Wh) (t : Option Str) : rul (.cd w t) = 1 := by rw [rul]
theorem rul_ls (l : List Tm) : rul (.ls l) = 1 + ruls l := by rw [rul]
theorem rul_gr (l : List Tm) : rul (.gr l) = 1 + ruls l := by rw [rul]
theorem dps_mem : ∀ {l : List Tm} {t : Tm}, t ∈ l → dp t ≤ dps l
  | [], _, h => nomatch h
  | a :: l, t, h => by
    rw [dps]
    rcases List.mem_cons.mp h with rfl | h
    · omega
    · have := dps_mem h; omega
theorem dps_le {k : Nat} : ∀ {l : List Tm}, (∀ t ∈ l, dp t ≤ k) → dps l ≤ k
  | [], _ => Nat.zero_le _
  | a :: l, h => by
    rw [dps]
    have := h a List.mem_cons_self
    have := dps_le (l := l) fun t ht => h t (List.mem_cons_of_mem _ ht)
    omega
theorem dp_pos : ∀ t : Tm, 1 ≤ dp t
  | .lv i => by rw [dp_lv]; omega
  | .cd w t => by rw [dp_cd]; omega
  | .ls l => by rw [dp_ls]; omega
  | .gr l => by rw [dp_gr]; omega
theorem rul_sum : ∀ l : List Tm, (l.map fun t => (rul t : Int)).sum = ruls l
  | [] => by rw [ruls]; rfl
  | a :: l => by rw [ruls, List.map_cons, List.sum_cons, rul_sum l]; omega
theorem ruls_le {k : Nat} : ∀ {l : List Tm}, (∀ t ∈ l, rul t ≤ k) → ruls l ≤ l.length * k
  | [], _ => by rw [ruls]; omega
  | a :: l, h => by
    rw [ruls, List.length_cons, Nat.succ_mul]
    have := h a List.mem_cons_self
    have := ruls_le (l := l) fun t ht => h t (List.mem_cons_of_mem _ ht)
    omega
theorem dps_max {l : List Tm} {M : Int} (h : M ∈ l.map fun t => (dp t : Int)) (g : ∀ b ∈ l.map (fun t => (dp t : Int)), b ≤ M) : M = dps l := by
  obtain ⟨t, ht, rfl⟩ := List.mem_map.mp h
  have h1 := dps_mem ht
  have h2 : dps l ≤ dp t := dps_le fun u hu => by have := g _ (List.mem_map_of_mem hu); omega
  omega
/-! the least, the greatest -/
def minI : List Int → Int
  | [] => 0
  | a :: l => l.foldl min a
def maxI : List Int → Int
  | [] => 0
  | a :: l => l.foldl max a
theorem foldl_min (l : List Int) (a : Int) : (l.foldl min a = a ∨ l.foldl min a ∈ l) ∧ l.foldl min a ≤ a ∧ ∀ b ∈ l, l.foldl min a ≤ b := by
  induction l generalizing a with
  | nil => exact ⟨.inl rfl, Int.le_refl _, fun _ h => nomatch h⟩
  | cons c l ih =>
    obtain ⟨h1, h2, h3⟩ := ih (min a c)
    rw [List.foldl_cons]
    refine ⟨?_, by omega, fun b hb => ?_⟩
    · rcases h1 with h1 | h1
      · rw [h1]
        by_cases z : a ≤ c
        · exact .inl (by omega)
        · exact .inr (by rw [show min a c = c by omega]; exact List.mem_cons_self)
      · exact .inr (List.mem_cons_of_mem _ h1)
    · rcases List.mem_cons.mp hb with rfl | hb
      · omega
      · exact h3 b hb
theorem foldl_max (l : List Int) (a : Int) : (l.foldl max a = a ∨ l.foldl max a ∈ l) ∧ a ≤ l.foldl max a ∧ ∀ b ∈ l, b ≤ l.foldl max a := by
  induction l generalizing a with
  | nil => exact ⟨.inl rfl, Int.le_refl _, fun _ h => nomatch h⟩
  | cons c l ih =>
    obtain ⟨h1, h2, h3⟩ := ih (max a c)
    rw [List.foldl_cons]
    refine ⟨?_, by omega, fun b hb => ?_⟩
    · rcases h1 with h1 | h1
      · rw [h1]
        by_cases z : c ≤ a
        · exact .inl (by omega)
        · exact .inr (by rw [show max a c = c by omega]; exact List.mem_cons_self)
      · exact .inr (List.mem_cons_of_mem _ h1)
    · rcases List.mem_cons.mp hb with rfl | hb
      · omega
      · exact h3 b hb
theorem minI_mem {l : List Int} (h : 0 < l.length) : minI l ∈ l := by
  cases l with
  | nil => cases h
  | cons a l =>
    rcases (foldl_min l a).1 with e | e
    · show l.foldl min a ∈ a :: l
      rw [e]; exact List.mem_cons_self
    · exact List.mem_cons_of_mem _ e
theorem minI_le {l : List Int} : ∀ b ∈ l, minI l ≤ b := by
  cases l with
  | nil => exact fun _ h => nomatch h
  | cons a l =>
    intro b hb
    rcases List.mem_cons.mp hb with rfl | hb
    · exact (foldl_min l b).2.1
    · exact (foldl_min l a).2.2 b hb
theorem maxI_mem {l : List Int} (h : 0 < l.length) : maxI l ∈ l := by
  cases l with
  | nil => cases h
  | cons a l =>
    rcases (foldl_max l a).1 with e | e
    · show l.foldl max a ∈ a :: l
      rw [e]; exact List.mem_cons_self
    · exact List.mem_cons_of_mem _ e
theorem maxI_le {l : List Int} : ∀ b ∈ l, b ≤ maxI l := by
  cases l with
  | nil => exact fun _ h => nomatch h
  | cons a l =>
    intro b hb
    rcases List.mem_cons.mp hb with rfl | hb
    · exact (foldl_max l b).2.1
    · exact (foldl_max l a).2.2 b hb
theorem is_minI {l : List Int} {M : Int} (h : M ∈ l) (g : ∀ b ∈ l, M ≤ b) : M = minI l := by
  have h1 := minI_le M h
  have h2 := g _ (minI_mem (List.length_pos_of_mem h))
  omega
theorem is_maxI {l : List Int} {M : Int} (h : M ∈ l) (g : ∀ b ∈ l, b ≤ M) : M = maxI l := by
  have h1 := maxI_le M h
  have h2 := g _ (maxI_mem (List.length_pos_of_mem h))
  omega
abbrev IsObj (μ : Mem) (x : D) (C : Str) (fs : List (Str × D)) : Prop := objOf μ x = some (C, fs)
theorem onq {μ : Mem} {C m : Str} {x : D} {fs : List (Str × D)} {R : Prop} (ho : objOf μ x = some (C, fs)) (hl : fs.lookup m = none) (h : R) : OnM C m x μ R := ⟨fs, ho, hl, h⟩
theorem obj_ref {μ : Mem} {p : Addr} {C : Str} {fs : List (Str × D)} (h : μ p = some (.obj C fs)) : objOf μ (.ref p) = some (C, fs) := by unfold objOf; dsimp only; rw [h]
/-- a rule of good parts -/
def whOk : Wh → Prop
  | .day n => 0 ≤ n ∧ n ≤ 9999
  | _ => True
def toOk : Option Str → Prop
  | some t => isName t = true
  | none => True
mutual
def okT : Tm → Prop
  | .lv i => 0 ≤ i ∧ i ≤ 1000000
  | .cd w t => whOk w ∧ toOk t
  | .ls l => (2 ≤ l.length ∧ l.length ≤ 8 ∧ ruls l < 60 ∧ dps l < 8) ∧ okTs l
  | .gr l => (2 ≤ l.length ∧ l.length ≤ 8 ∧ ruls l < 60 ∧ dps l < 8) ∧ okTs l
def okTs : List Tm → Prop
  | [] => True
  | t :: r => okT t ∧ okTs r
end
theorem okTs_iff : ∀ {l : List Tm}, okTs l ↔ ∀ t ∈ l, okT t
  | [] => ⟨fun _ _ h => (nomatch h), fun _ => by simp [okTs]⟩
  | a :: l => by
    rw [okTs, okTs_iff (l := l)]
    constructor
    · rintro ⟨h1, h2⟩ t ht
      rcases List.mem_cons.mp ht with rfl | ht
      · exact h1
      · exact h2 t ht
    · exact fun h => ⟨h a List.mem_cons_self, fun t ht => h t (List.mem_cons_of_mem _ ht)⟩
theorem ok_lv {i : Int} : okT (.lv i) ↔ 0 ≤ i ∧ i ≤ 1000000 := by rw [okT]
theorem ok_cd {w : Wh} {t : Option Str} : okT (.cd w t) ↔ whOk w ∧ toOk t := by rw [okT]
theorem ok_ls {l : List Tm} : okT (.ls l) ↔ (2 ≤ l.length ∧ l.length ≤ 8 ∧ ruls l < 60 ∧ dps l < 8) ∧ ∀ t ∈ l, okT t := by rw [okT, okTs_iff]
theorem ok_gr {l : List Tm} : okT (.gr l) ↔ (2 ≤ l.length ∧ l.length ≤ 8 ∧ ruls l < 60 ∧ dps l < 8) ∧ ∀ t ∈ l, okT t := by rw [okT, okTs_iff]
theorem ok_dp : ∀ {t : Tm}, okT t → dp t ≤ 8
  | .lv i, _ => by rw [dp_lv]; omega
  | .cd w t, _ => by rw [dp_cd]; omega
  | .ls l, h => by rw [dp_ls]; have := (ok_ls.mp h).1; omega
  | .gr l, h => by rw [dp_gr]; have := (ok_gr.mp h).1; omega
/-! what a rule is worth -/
structure Case where
  town : Str
  made : Int
  paid : Int
abbrev caseD (z : Case) : D := .tup [.str z.town, .int z.made, .int z.paid]
structure CaseOk (z : Case) : Prop where
  t : isName z.town = true
  m : 0 ≤ z.made ∧ z.made ≤ 9999
  p : 0 ≤ z.paid ∧ z.paid ≤ 9999
def whAt (z : Case) : Wh → Int
  | .made => z.made
  | .paid => z.paid
  | .day n => n
mutual
def tw (rows : List Row) (k : Str) (z : Case) : Tm → Int
  | .lv i => i
  | .cd w t => wOf rows (t.getD z.town) k (whAt z w)
  | .ls l => minI (tws rows k z l)
  | .gr l => maxI (tws rows k z l)
def tws (rows : List Row) (k : Str) (z : Case) : List Tm → List Int
  | [] => []
  | t :: r => tw rows k z t :: tws rows k z r
end
theorem tws_map (rows : List Row) (k : Str) (z : Case) : ∀ l : List Tm, tws rows k z l = l.map (tw rows k z)
  | [] => rfl
  | t :: r => by rw [tws, tws_map rows k z r]; rfl
theorem tw_lv {rows : List Row} {k : Str} {z : Case} (i : Int) : tw rows k z (.lv i) = i := by rw [tw]
theorem tw_cd {rows : List Row} {k : Str} {z : Case} (w : Wh) (t : Option Str) : tw rows k z (.cd w t) = wOf rows (t.getD z.town) k (whAt z w) := by rw [tw]
theorem tw_ls {rows : List Row} {k : Str} {z : Case} (l : List Tm) : tw rows k z (.ls l) = minI (l.map (tw rows k z)) := by rw [tw, tws_map]
theorem tw_gr {rows : List Row} {k : Str} {z : Case} (l : List Tm) : tw rows k z (.gr l) = maxI (l.map (tw rows k z)) := by rw [tw, tws_map]
theorem lit_cp {z : Str} (h : z.cps.toList.all (fun c => decide (c < 0x110000)) = true) : Al Cp z := fun c hc => of_decide_eq_true (List.all_eq_true.mp h c hc)
theorem int_mem {l : List Int} {i : Int} {μ : Mem} {QM' : QM} (h0 : 0 ≤ i) (h1 : i < l.length) (q : ∀ z, z ∈ l → QM' (.int z) μ) : rdIx (.lst (l.map .int)) (.int i) μ QM' := by
  obtain ⟨d, hd, e⟩ := atI_int (l := l.map D.int) h0 (by rw [List.length_map]; exact h1)
  obtain ⟨z, hz, rfl⟩ := List.mem_map.mp hd
  exact i_ixL e (q z hz)
theorem cut_tail {x : D} {l : List D} : Dl.cutD (x :: l) (some 1) none = l := by
  unfold Dl.cutD
  simp [HT.sIx]
theorem map_mem {α : Type} {f : α → D} {l : List α} {i : Int} {μ : Mem} {QM' : QM} (h0 : 0 ≤ i) (h1 : i < l.length) (q : ∀ z, z ∈ l → QM' (f z) μ) : rdIx (.lst (l.map f)) (.int i) μ QM' := by
  obtain ⟨d, hd, e⟩ := atI_int (l := l.map f) h0 (by rw [List.length_map]; exact h1)
  obtain ⟨z, hz, rfl⟩ := List.mem_map.mp hd
  exact i_ixL e (q z hz)
/-! a book of debts, its book of calls, the law's own rows of calls -/
theorem all_true {α : Type} {l : List α} {μ : Mem} {Q : QM} (h : Q (.bl true) μ) : rdAll [.lst (l.map fun _ => D.bl true)] μ Q :=
  ⟨l.map fun _ => true, by rw [List.map_map]; rfl, by
    have : (l.map fun _ => true).all id = true := by simp
    rw [this]; exact h⟩
theorem upd_le {μ μ2 : Mem} {p : Addr} {m : MO} (l : LeM μ μ2) (h : μ p = none) : LeM μ (updM μ2 p m) := fun q u e => by
  rw [updM_ne (fun z => by rw [z, h] at e; cases e)]
  exact l q u e
/-! ### rules told by tuples, as the laws about rules draw them -/
/-- a call: a day, a town -/
abbrev cdT (c : Wh × Option Str) : D := .tup [whD c.1, toD c.2]
def CdOk (c : Wh × Option Str) : Prop := okT (.cd c.1 c.2)
/-- what _law_alike compares: None, texts, numbers, tuples of such -/
def AlD : Nat → D → Prop
  | 0, _ => False
  | n + 1, d => d = .non ∨ (∃ s : Str, d = .str s ∧ Al Cp s) ∨ (∃ i, d = .int i) ∨ ∃ l, d = .tup l ∧ l.length ≤ 1000 ∧ ∀ x ∈ l, AlD n x
theorem AlD.mono : ∀ {n m : Nat} {d : D}, AlD n d → n ≤ m → AlD m d
  | 0, _, _, h, _ => h.elim
  | n + 1, 0, _, _, h => absurd h (by omega)
  | n + 1, m + 1, d, h, hm => by
    rcases h with h | h | h | ⟨l, e, hl, h⟩
    · exact .inl h
    · exact .inr (.inl h)
    · exact .inr (.inr (.inl h))
    · exact .inr (.inr (.inr ⟨l, e, hl, fun x hx => (h x hx).mono (by omega)⟩))
theorem al_to {t : Option Str} (h : toOk t) : AlD 1 (toD t) := by
  cases t with
  | none => exact .inl rfl
  | some t => exact .inr (.inl ⟨t, rfl, name_cp h⟩)
theorem al_wh2 {w : Wh} : AlD 1 (whD w) := by
  cases w with
  | made => exact .inr (.inl ⟨_, rfl, lit_cp (by decide +kernel)⟩)
  | paid => exact .inr (.inl ⟨_, rfl, lit_cp (by decide +kernel)⟩)
  | day n => exact .inr (.inr (.inl ⟨n, rfl⟩))
theorem seq_refR {μ : Mem} {p : Addr} {l : List D} (h : μ p = some (.lst l)) : seqOf μ (.ref p) = some l := by unfold seqOf; dsimp only; rw [h]
theorem wh_isR {w : Wh} (h : whOk w) : (whD w = .str "made" ∧ true = true) ∨ (whD w = .str "paid" ∧ true = true) ∨ numOk 0 9999 (whD w) = some true := by
  cases w with
  | made => exact .inl ⟨rfl, rfl⟩
  | paid => exact .inr (.inl ⟨rfl, rfl⟩)
  | day n => exact .inr (.inr (numOk_int h.1 h.2))
/-! ### the calls of a rule, in order; what a rule tells of a set of calls; the form -/
instance : DecidableEq Wh := fun a b => match a, b with
  | .made, .made => isTrue rfl
  | .paid, .paid => isTrue rfl
  | .made, .paid => isFalse fun h => nomatch h
  | .made, .day _ => isFalse fun h => nomatch h
  | .paid, .made => isFalse fun h => nomatch h
  | .paid, .day _ => isFalse fun h => nomatch h
  | .day _, .made => isFalse fun h => nomatch h
  | .day _, .paid => isFalse fun h => nomatch h
  | .day n, .day m => if h : n = m then isTrue (by rw [h]) else isFalse fun e => h (by injection e)
abbrev Cl := Wh × Option Str
instance : Inhabited Cl := ⟨(.made, none)⟩
theorem Tm.ind {P : Tm → Prop} (h1 : ∀ i, P (.lv i)) (h2 : ∀ w t, P (.cd w t)) (h3 : ∀ l, (∀ t ∈ l, P t) → P (.ls l)) (h4 : ∀ l, (∀ t ∈ l, P t) → P (.gr l)) : ∀ t, P t := by
  intro t
  refine Tm.rec (motive_1 := P) (motive_2 := fun l => ∀ t ∈ l, P t) h1 h2 h3 h4 (fun _ h => nomatch h) (fun a l ha hl t ht => ?_) t
  rcases List.mem_cons.mp ht with rfl | ht
  · exact ha
  · exact hl t ht
mutual
def cls : Tm → List Cl
  | .lv _ => []
  | .cd w t => [(w, t)]
  | .ls l => clss l
  | .gr l => clss l
def clss : List Tm → List Cl
  | [] => []
  | t :: r => cls t ++ clss r
end
theorem clss_map : ∀ l : List Tm, clss l = (l.map cls).flatten
  | [] => by rw [clss]; rfl
  | t :: r => by rw [clss, clss_map r]; rfl
theorem cls_lv (i : Int) : cls (.lv i) = [] := by rw [cls]
theorem cls_cd (w : Wh) (t : Option Str) : cls (.cd w t) = [(w, t)] := by rw [cls]
theorem cls_ls (l : List Tm) : cls (.ls l) = (l.map cls).flatten := by rw [cls, clss_map]
theorem cls_gr (l : List Tm) : cls (.gr l) = (l.map cls).flatten := by rw [cls, clss_map]
mutual
def sg (S : List Cl) : Tm → Int
  | .lv i => i
  | .cd w t => if (w, t) ∈ S then 1000000 else 0
  | .ls l => minI (sgs S l)
  | .gr l => maxI (sgs S l)
def sgs (S : List Cl) : List Tm → List Int
  | [] => []
  | t :: r => sg S t :: sgs S r
end
theorem sgs_map (S : List Cl) : ∀ l : List Tm, sgs S l = l.map (sg S)
  | [] => by rw [sgs]; rfl
  | t :: r => by rw [sgs, sgs_map S r]; rfl
theorem sg_lv {S : List Cl} (i : Int) : sg S (.lv i) = i := by rw [sg]
theorem sg_cd {S : List Cl} (w : Wh) (t : Option Str) : sg S (.cd w t) = if (w, t) ∈ S then 1000000 else 0 := by rw [sg]
theorem sg_ls {S : List Cl} (l : List Tm) : sg S (.ls l) = minI (l.map (sg S)) := by rw [sg, sgs_map]
theorem sg_gr {S : List Cl} (l : List Tm) : sg S (.gr l) = maxI (l.map (sg S)) := by rw [sg, sgs_map]
theorem minI_map_mem {f : Tm → Int} {l : List Tm} (h : 2 ≤ l.length) : ∃ t ∈ l, f t = minI (l.map f) := List.mem_map.mp (minI_mem (by rw [List.length_map]; omega))
theorem maxI_map_mem {f : Tm → Int} {l : List Tm} (h : 2 ≤ l.length) : ∃ t ∈ l, f t = maxI (l.map f) := List.mem_map.mp (maxI_mem (by rw [List.length_map]; omega))
theorem sg_bd {S : List Cl} : ∀ t, okT t → 0 ≤ sg S t ∧ sg S t ≤ 1000000 := by
  refine Tm.ind (fun i o => ?_) (fun w t o => ?_) (fun l ih o => ?_) (fun l ih o => ?_)
  · rw [sg_lv]; exact ok_lv.mp o
  · rw [sg_cd]; split <;> decide
  · obtain ⟨o1, o2⟩ := ok_ls.mp o
    obtain ⟨t, ht, e⟩ := minI_map_mem (f := sg S) o1.1
    rw [sg_ls, ← e]; exact ih t ht (o2 t ht)
  · obtain ⟨o1, o2⟩ := ok_gr.mp o
    obtain ⟨t, ht, e⟩ := maxI_map_mem (f := sg S) o1.1
    rw [sg_gr, ← e]; exact ih t ht (o2 t ht)
/-- what a call is worth in a book and a case -/
def vOf (rows : List Row) (k : Str) (z : Case) (c : Cl) : Int := wOf rows (c.2.getD z.town) k (whAt z c.1)
/-! all sets of places -/
def subs : Nat → List (List Nat)
  | 0 => [[]]
  | n + 1 => subs n ++ (subs n).map (· ++ [n])
theorem mem_subs : ∀ {n : Nat} {p : List Nat}, p ∈ subs n ↔ p.Sublist (List.range n)
  | 0, p => by unfold subs; simp
  | n + 1, p => by
    unfold subs
    rw [List.mem_append, mem_subs, List.mem_map, List.range_succ, List.sublist_append_iff]
    constructor
    · rintro (h | ⟨q, h, rfl⟩)
      · exact ⟨p, [], by simp, h, List.nil_sublist _⟩
      · exact ⟨q, [n], rfl, mem_subs.mp h, List.Sublist.refl _⟩
    · rintro ⟨l1, l2, rfl, h1, h2⟩
      have : l2 = [] ∨ l2 = [n] := by
        cases l2 with
        | nil => exact .inl rfl
        | cons a l2 =>
          have hl := h2.length_le
          have : l2 = [] := List.length_eq_zero_iff.mp (by simpa using hl)
          subst this
          exact .inr (by have := h2.eq_of_length rfl; exact this)
      rcases this with rfl | rfl
      · left; simpa using h1
      · exact .inr ⟨l1, mem_subs.mpr h1, rfl⟩
theorem subs_lt {n : Nat} {p : List Nat} (h : p ∈ subs n) : ∀ i ∈ p, i < n := fun i hi => List.mem_range.mp ((mem_subs.mp h).subset hi)
theorem subs_len {n : Nat} {p : List Nat} (h : p ∈ subs n) : p.length ≤ n := by have := (mem_subs.mp h).length_le; simpa using this
theorem subs_many : ∀ n : Nat, (subs n).length = 2 ^ n
  | 0 => rfl
  | n + 1 => by unfold subs; rw [List.length_append, List.length_map, subs_many n, Nat.pow_succ]; omega
theorem subs_nodup : ∀ n : Nat, (subs n).Nodup
  | 0 => by unfold subs; simp
  | n + 1 => by
    unfold subs
    refine List.nodup_append.mpr ⟨subs_nodup n, ?_, fun p hp q hq e => ?_⟩
    · refine List.pairwise_map.mpr ((subs_nodup n).imp fun h e => h (List.append_cancel_right e))
    · obtain ⟨r, hr, rfl⟩ := List.mem_map.mp hq
      have := subs_lt hp n (by rw [e]; simp)
      omega
def skey (p : List Nat) : PyData := .tuple [.int p.length, .tuple ((p.map fun i : Nat => (i : Int)).map .int)]
def sbs (n : Nat) : List (List Nat) := (subs n).mergeSort (PySem.W.dataLe false skey)
theorem sbs_perm (n : Nat) : (sbs n).Perm (subs n) := List.mergeSort_perm _ _
theorem mem_sbs {n : Nat} {p : List Nat} : p ∈ sbs n ↔ p.Sublist (List.range n) := (sbs_perm n).mem_iff.trans mem_subs
theorem sbs_nodup (n : Nat) : (sbs n).Nodup := (sbs_perm n).nodup_iff.mpr (subs_nodup n)
theorem sbs_many (n : Nat) : (sbs n).length = 2 ^ n := by rw [(sbs_perm n).length_eq, subs_many]
theorem skey_le {p q : List Nat} (h : PySem.W.dataLe false skey p q = true) : p.length ≤ q.length := by
  rw [PySem.W.dataLe_eq] at h
  have h : (!PySem.W.dataLt (skey q) (skey p)) = true := h
  rw [Bool.not_eq_true'] at h
  unfold skey at h
  rw [PySem.W.dataLt_pair (by simp [PySem.W.alike]) (by unfold PySem.W.alike; exact PySem.W.alike_ints _ _)] at h
  by_cases e : (q.length : Int) = p.length
  · omega
  · rw [if_neg (by simp [PyData.eqv]; omega), PySem.W.dataLt_int] at h
    have := of_decide_eq_false h
    omega
theorem sbs_up (n : Nat) : (sbs n).Pairwise fun p q => p.length ≤ q.length := (PySem.W.sort_pairwise (PySem.W.sortLe_total _ _ _) _).imp fun h => skey_le h
/-- what is shorter stands ahead -/
theorem sbs_before {n i : Nat} {p q : List Nat} (hp : (sbs n)[i]? = some p) (hq : q.Sublist (List.range n)) (hl : q.length < p.length) : q ∈ (sbs n).take i := by
  obtain ⟨j, hj, e⟩ := List.mem_iff_getElem.mp (mem_sbs.mpr hq)
  obtain ⟨hi, e2⟩ := List.getElem?_eq_some_iff.mp hp
  have : j < i := by
    rcases Nat.lt_or_ge j i with h | h
    · exact h
    · exfalso
      rcases Nat.lt_or_eq_of_le h with h | h
      · have := List.pairwise_iff_getElem.mp (sbs_up n) i j hi hj h
        rw [e, e2] at this; omega
      · subst h; rw [e2] at e; subst e; omega
  exact List.mem_iff_getElem.mpr ⟨j, by rw [List.length_take]; omega, by rw [List.getElem_take]; exact e⟩
/-! the order of calls -/
def rkI : Wh → Int × Int
  | .made => (0, 0)
  | .paid => (1, 0)
  | .day n => (2, n)
def rkT : Option Str → Int × Str
  | none => (0, "")
  | some x => (1, x)
def rkey (c : Cl) : PyData := .tuple [.tuple [.int (rkI c.1).1, .int (rkI c.1).2], .int (rkT c.2).1, .str (rkT c.2).2]
def rkD (c : Cl) : D := .tup [.tup [.int (rkI c.1).1, .int (rkI c.1).2], .int (rkT c.2).1, .str (rkT c.2).2]
theorem rkI_inj {w u : Wh} (h1 : (rkI w).1 = (rkI u).1) (h2 : (rkI w).2 = (rkI u).2) : w = u := by
  cases w <;> cases u <;> simp_all [rkI]
theorem rkT_inj {w u : Option Str} (h1 : (rkT w).1 = (rkT u).1) (h2 : (rkT w).2 = (rkT u).2) : w = u := by
  cases w <;> cases u <;> simp_all [rkT]
theorem lt_ii_or {a b c d : Int} (h1 : PySem.W.dataLt (.tuple [.int a, .int b]) (.tuple [.int c, .int d]) = false) (h2 : PySem.W.dataLt (.tuple [.int c, .int d]) (.tuple [.int a, .int b]) = false) : a = c ∧ b = d := by
  rw [PySem.W.dataLt_ii] at h1 h2
  have := of_decide_eq_false h1
  have := of_decide_eq_false h2
  omega
theorem rkey_lt {a b c d u v : Int} {x y : Str} : PySem.W.dataLt (.tuple [.tuple [.int a, .int b], .int u, .str x]) (.tuple [.tuple [.int c, .int d], .int v, .str y]) =
    if a = c ∧ b = d then (if u = v then PySem.W.dataLt (.str x) (.str y) else PySem.W.dataLt (.int u) (.int v)) else PySem.W.dataLt (.tuple [.int a, .int b]) (.tuple [.int c, .int d]) := by
  rw [PySem.W.dataLt_tuple, PySem.W.dataLt_cons (by simp [PySem.W.alike, PySem.W.alikeAll]), PySem.W.dataLt_cons (by simp [PySem.W.alike]), PySem.W.dataLt_cons (by simp [PySem.W.alike])]
  have e1 : (PyData.eqv (.tuple [.int a, .int b]) (.tuple [.int c, .int d]) = true) = (a = c ∧ b = d) := by simp [PyData.eqv, PyData.eqvAll]
  have e2 : (PyData.eqv (.int u) (.int v) = true) = (u = v) := by simp [PyData.eqv]
  simp only [e1, e2]
  by_cases h : PyData.eqv (.str x) (.str y) = true
  · rw [if_pos h]
    have : x = y := by simpa [PyData.eqv] using h
    subst this
    rw [PySem.W.dataLt_str, decide_eq_false (List.lt_irrefl _)]; rfl
  · rw [if_neg h]
def cle : Cl → Cl → Bool := PySem.W.dataLe false rkey
theorem cle_tot : PySem.W.TotalLe cle := by
  unfold cle PySem.W.dataLe
  exact PySem.W.sortLe_total _ _ _
theorem cle_anti {c d : Cl} (h1 : cle c d = true) (h2 : cle d c = true) : c = d := by
  have h1 : (!PySem.W.dataLt (rkey d) (rkey c)) = true := h1
  have h2 : (!PySem.W.dataLt (rkey c) (rkey d)) = true := h2
  rw [Bool.not_eq_true'] at h1 h2
  unfold rkey at h1 h2
  rw [rkey_lt] at h1 h2
  by_cases e : (rkI c.1).1 = (rkI d.1).1 ∧ (rkI c.1).2 = (rkI d.1).2
  · rw [if_pos ⟨e.1.symm, e.2.symm⟩] at h1
    rw [if_pos e] at h2
    by_cases f : (rkT c.2).1 = (rkT d.2).1
    · rw [if_pos f.symm] at h1
      rw [if_pos f] at h2
      rw [PySem.W.dataLt_str] at h1 h2
      have h1 := of_decide_eq_false h1
      have h2 := of_decide_eq_false h2
      have g : (rkT c.2).2 = (rkT d.2).2 := TL.ext_tl (List.le_antisymm (List.not_lt.mp h1) (List.not_lt.mp h2))
      exact Prod.ext (rkI_inj e.1 e.2) (rkT_inj f g)
    · rw [if_neg fun z => f z.symm] at h1
      rw [if_neg f] at h2
      rw [PySem.W.dataLt_int] at h1 h2
      have := of_decide_eq_false h1
      have := of_decide_eq_false h2
      omega
  · rw [if_neg fun z => e ⟨z.1.symm, z.2.symm⟩] at h1
    rw [if_neg e] at h2
    exact absurd (lt_ii_or h2 h1) e
def ddS (l : List Cl) (c : Cl) : List Cl := if l.getLast? = some c then l else l ++ [c]
def ords (l : List Cl) : List Cl := (l.mergeSort cle).foldl ddS []
theorem dd_inv (w : List Cl) (hw : w.Pairwise fun a b => cle a b = true) (i : Nat) (hi : i ≤ w.length) : ((w.take i).foldl ddS []).Sublist (w.take i) ∧ ((w.take i).foldl ddS []).Nodup ∧ (∀ c, c ∈ (w.take i).foldl ddS [] ↔ c ∈ w.take i) := by
  induction i with
  | zero => simp
  | succ i ih =>
    obtain ⟨h1, h2, h3⟩ := ih (by omega)
    have hg : w[i]? = some w[i] := List.getElem?_eq_getElem (by omega)
    rw [List.take_succ, hg, Option.toList_some, List.foldl_append, List.foldl_cons, List.foldl_nil]
    generalize (w.take i).foldl ddS [] = l at h1 h2 h3
    unfold ddS
    split
    · rename_i e
      refine ⟨h1.trans (List.sublist_append_left _ _), h2, fun c => ?_⟩
      rw [List.mem_append, ← h3, List.mem_singleton]
      exact ⟨.inl, fun z => z.elim id fun z => by rw [z]; exact List.mem_of_getLast? e⟩
    · rename_i e
      refine ⟨h1.append (List.Sublist.refl _), List.nodup_append.mpr ⟨h2, by simp, fun a ha b hb z => ?_⟩, fun c => by rw [List.mem_append, List.mem_append, h3]⟩
      rw [List.mem_singleton] at hb
      subst hb
      subst z
      have hne : l ≠ [] := fun z => by rw [z] at ha; cases ha
      obtain ⟨q, x, rfl⟩ : ∃ q x, l = q ++ [x] := ⟨l.dropLast, l.getLast hne, (List.dropLast_concat_getLast hne).symm⟩
      rw [List.getLast?_append, List.getLast?_singleton] at e
      apply e
      have hx : x ∈ w.take i := (h3 x).mp (by simp)
      have c1 : cle x w[i] = true := by
        obtain ⟨j, hj, ej⟩ := List.mem_iff_getElem.mp hx
        rw [List.getElem_take] at ej
        rw [List.length_take] at hj
        rw [← ej]; exact List.pairwise_iff_getElem.mp hw j i (by omega) (by omega) (by omega)
      have c2 : cle w[i] x = true := by
        rcases List.mem_append.mp ha with z | z
        · have pw : (q ++ [x]).Pairwise fun a b => cle a b = true := (hw.sublist (List.take_sublist _ _)).sublist h1
          exact (List.pairwise_append.mp pw).2.2 _ z x (by simp)
        · rw [List.mem_singleton.mp z]; exact cle_tot.refl _
      rw [cle_anti c1 c2]; rfl
theorem ords_spec (l : List Cl) : (ords l).Nodup ∧ ∀ c, c ∈ ords l ↔ c ∈ l := by
  obtain ⟨_, h2, h3⟩ := dd_inv (l.mergeSort cle) (PySem.W.sort_pairwise cle_tot l) _ (Nat.le_refl _)
  rw [List.take_length] at h2 h3
  exact ⟨h2, fun c => (h3 c).trans List.mem_mergeSort⟩
theorem nodup_le : ∀ {l U : List Cl}, l.Nodup → (∀ c ∈ l, c ∈ U) → l.length ≤ U.length
  | [], _, _, _ => Nat.zero_le _
  | a :: l, U, h, g => by
    have ha := g a List.mem_cons_self
    have := nodup_le (l := l) (U := U.erase a) (List.nodup_cons.mp h).2 fun c hc => (List.mem_erase_of_ne fun z => (List.nodup_cons.mp h).1 (by rw [← z]; exact hc)).mpr (g c (List.mem_cons_of_mem _ hc))
    rw [List.length_erase_of_mem ha] at this
    have := List.length_pos_of_mem ha
    rw [List.length_cons]; omega
theorem ords_len {l U : List Cl} (h : ∀ c ∈ l, c ∈ U) : (ords l).length ≤ U.length := by
  obtain ⟨h1, h2⟩ := ords_spec l
  exact nodup_le h1 fun c hc => h c ((h2 c).mp hc)
/-! the form -/
def pick (cs : List Cl) (p : List Nat) : List Cl := p.map fun i => cs.getD i default
def sv (t : Tm) (cs : List Cl) (p : List Nat) : Int := sg (pick cs p) t
def lessers (t : Tm) (cs : List Cl) (p : List Nat) : List Int := (List.range p.length).map fun k => sv t cs (p.eraseIdx k)
def good (t : Tm) (cs : List Cl) (p : List Nat) : Bool := decide (maxI (lessers t cs p) < sv t cs p)
def prs (t : Tm) : List (List Cl × Int) := ((sbs (ords (cls t)).length).filter (good t (ords (cls t)))).map fun p => (pick (ords (cls t)) p, sv t (ords (cls t)) p)
theorem go_down {t : Tm} {cs : List Cl} {n : Nat} {x : Int} {v : Cl → Int} (hx : 0 < x) : ∀ (k : Nat) (p : List Nat), p.length = k → p.Sublist (List.range n) → x ≤ sv t cs p → (∀ c ∈ pick cs p, x ≤ v c) → ∃ q, q.Sublist (List.range n) ∧ good t cs q = true ∧ x ≤ sv t cs q ∧ ∀ c ∈ pick cs q, x ≤ v c
  | k, p, hk, hs, h1, h2 => by
    by_cases g : good t cs p = true
    · exact ⟨p, hs, g, h1, h2⟩
    · unfold good at g
      have g : sv t cs p ≤ maxI (lessers t cs p) := by
        have : ¬ maxI (lessers t cs p) < sv t cs p := fun z => g (decide_eq_true z)
        omega
      cases k with
      | zero =>
        have : p = [] := List.length_eq_zero_iff.mp hk
        subst this
        have : maxI (lessers t cs []) = 0 := rfl
        omega
      | succ k =>
        have hm := maxI_mem (l := lessers t cs p) (by unfold lessers; rw [List.length_map, List.length_range]; omega)
        obtain ⟨j, hj, e⟩ := List.mem_map.mp hm
        have hj := List.mem_range.mp hj
        refine go_down hx k (p.eraseIdx j) (by rw [List.length_eraseIdx_of_lt hj]; omega) ((List.eraseIdx_sublist _ _).trans hs) (by rw [e]; omega) fun c hc => h2 c ?_
        obtain ⟨i, hi, rfl⟩ := List.mem_map.mp hc
        exact List.mem_map_of_mem ((List.eraseIdx_sublist _ _).subset hi)
theorem pick_mem {cs : List Cl} {p : List Nat} (h : p.Sublist (List.range cs.length)) : ∀ c ∈ pick cs p, c ∈ cs := fun c hc => by
  obtain ⟨i, hi, rfl⟩ := List.mem_map.mp hc
  have hi := List.mem_range.mp (h.subset hi)
  rw [List.getD_eq_getElem?_getD, List.getElem?_eq_getElem hi]
  exact List.getElem_mem _
theorem prs_mem {t : Tm} {x : List Cl × Int} (h : x ∈ prs t) : ∃ p, p.Sublist (List.range (ords (cls t)).length) ∧ x = (pick (ords (cls t)) p, sv t (ords (cls t)) p) ∧ good t (ords (cls t)) p = true := by
  obtain ⟨p, hp, rfl⟩ := List.mem_map.mp h
  obtain ⟨h1, h2⟩ := List.mem_filter.mp hp
  exact ⟨p, mem_sbs.mp h1, rfl, h2⟩
theorem pl_wh (w : Wh) : plD 1 (whD w) := by
  cases w with
  | made => exact pl_str (fun d hd => of_decide_eq_true (List.all_eq_true.mp (show (Str.ofString "made").cps.toList.all (fun c => decide (c < 0x110000)) = true by decide +kernel) d hd))
  | paid => exact pl_str (fun d hd => of_decide_eq_true (List.all_eq_true.mp (show (Str.ofString "paid").cps.toList.all (fun c => decide (c < 0x110000)) = true by decide +kernel) d hd))
  | day n => exact pl_int
theorem pl_to {t : Option Str} (h : toOk t) : plD 1 (toD t) := by
  cases t with
  | none => exact pl_non
  | some z => exact pl_str (name_cp h)
theorem cd_wh {c : Cl} (h : CdOk c) : whOk c.1 ∧ toOk c.2 := ok_cd.mp h
theorem pl_cd {c : Cl} (h : CdOk c) : plD 2 (cdT c) := pl_tup (pls_cons (pl_wh c.1) (pls_cons (pl_to (cd_wh h).2) pls_nil))
theorem eqD_si (z : Str) (i : Int) : eqD (.str z) (.int i) = false := by
  show PyData.eqv (.str z) (.int i) = false
  simp [PyData.eqv]
theorem eqD_is (z : Str) (i : Int) : eqD (.int i) (.str z) = false := by
  show PyData.eqv (.int i) (.str z) = false
  simp [PyData.eqv]
theorem eq_wh (w u : Wh) : eqD (whD w) (whD u) = decide (w = u) := by
  have ne : ¬ (Str.ofString "made" = Str.ofString "paid") := by decide +kernel
  have ne2 : ¬ (Str.ofString "paid" = Str.ofString "made") := by decide +kernel
  cases w <;> cases u <;> simp [whD, eqD_int, eqD_str, eqD_si, eqD_is, ne, ne2]
theorem eq_to (t u : Option Str) : eqD (toD t) (toD u) = decide (t = u) := by
  cases t <;> cases u <;> first | rfl | (simp only [toD, eqD_str]; simp)
theorem eq_cd (c d : Cl) : eqD (cdT c) (cdT d) = decide (c = d) := by
  rw [eqD_tup, eqDs_cons, eqDs_cons, eqDs_nil, eq_wh, eq_to]
  obtain ⟨a, b⟩ := c
  obtain ⟨a', b'⟩ := d
  by_cases h1 : a = a' <;> by_cases h2 : b = b' <;> simp [h1, h2]
theorem pls_cd : ∀ {l : List Cl}, (∀ c ∈ l, CdOk c) → plDs 2 (l.map cdT)
  | [], _ => pls_nil
  | c :: l, h => pls_cons (pl_cd (h c List.mem_cons_self)) (pls_cd fun x hx => h x (List.mem_cons_of_mem _ hx))
theorem dd_sub : ∀ (l acc : List Cl), (∀ c ∈ l.foldl ddS acc, c ∈ acc ∨ c ∈ l) ∧ (l.foldl ddS acc).length ≤ acc.length + l.length
  | [], acc => ⟨fun c h => .inl h, Nat.le_refl _⟩
  | a :: l, acc => by
    obtain ⟨h1, h2⟩ := dd_sub l (ddS acc a)
    rw [List.foldl_cons]
    have e : (∀ c ∈ ddS acc a, c ∈ acc ∨ c = a) ∧ (ddS acc a).length ≤ acc.length + 1 := by
      unfold ddS
      split
      · exact ⟨fun c h => .inl h, by omega⟩
      · exact ⟨fun c h => by simpa using h, by simp⟩
    refine ⟨fun c hc => ?_, by have := e.2; rw [List.length_cons]; omega⟩
    rcases h1 c hc with h | h
    · rcases e.1 c h with h | h
      · exact .inl h
      · exact .inr (by rw [h]; exact List.mem_cons_self)
    · exact .inr (List.mem_cons_of_mem _ h)
theorem cls_rul : ∀ t : Tm, (cls t).length ≤ rul t := by
  have ml : ∀ l : List Tm, (∀ t ∈ l, (cls t).length ≤ rul t) → ((l.map cls).flatten).length ≤ ruls l := by
    intro l
    induction l with
    | nil => intro _; exact Nat.zero_le _
    | cons a l ih =>
      intro h
      rw [List.map_cons, List.flatten_cons, List.length_append, ruls]
      have := h a List.mem_cons_self
      have := ih fun t ht => h t (List.mem_cons_of_mem _ ht)
      omega
  refine Tm.ind (fun i => ?_) (fun w t => ?_) (fun l ih => ?_) (fun l ih => ?_)
  · rw [cls_lv]; exact Nat.zero_le _
  · rw [cls_cd, rul_cd]; exact Nat.le_refl _
  · rw [cls_ls, rul_ls]; have := ml l ih; omega
  · rw [cls_gr, rul_gr]; have := ml l ih; omega
theorem rul_lt {t : Tm} (o : okT t) : rul t ≤ 60 := by
  cases t with
  | lv i => rw [rul_lv]; omega
  | cd w t => rw [rul_cd]; omega
  | ls l => have := (ok_ls.mp o).1; rw [rul_ls]; omega
  | gr l => have := (ok_gr.mp o).1; rw [rul_gr]; omega
theorem cls_len {t : Tm} (o : okT t) : (cls t).length ≤ 60 := Nat.le_trans (cls_rul t) (rul_lt o)
theorem cls_ok : ∀ t : Tm, okT t → ∀ c ∈ cls t, CdOk c := by
  refine Tm.ind (fun i _ => ?_) (fun w t o => ?_) (fun l ih o => ?_) (fun l ih o => ?_)
  · rw [cls_lv]; exact fun _ h => nomatch h
  · rw [cls_cd]; intro c hc; rw [List.mem_singleton.mp hc]; exact o
  · rw [cls_ls]; intro c hc
    obtain ⟨s, hs, hc⟩ := List.mem_flatten.mp hc
    obtain ⟨t, ht, rfl⟩ := List.mem_map.mp hs
    exact ih t ht ((ok_ls.mp o).2 t ht) c hc
  · rw [cls_gr]; intro c hc
    obtain ⟨s, hs, hc⟩ := List.mem_flatten.mp hc
    obtain ⟨t, ht, rfl⟩ := List.mem_map.mp hs
    exact ih t ht ((ok_gr.mp o).2 t ht) c hc
abbrev tpD (p : List Nat) : D := .tup ((p.map fun i : Nat => (i : Int)).map .int)
theorem skey_alike (p q : List Nat) : PySem.W.alike (skey p) (skey q) = true := by
  have h : ∀ xs ys : List Int, PySem.W.alike (.tuple [.int p.length, .tuple (xs.map .int)]) (.tuple [.int q.length, .tuple (ys.map .int)]) = true := fun xs ys => by
    simp [PySem.W.alike, PySem.W.alikeAll, PySem.W.alike_ints]
  exact h _ _
theorem dep0_ints : ∀ xs : List Int, PyData.depthAll (xs.map .int) = 0
  | [] => by simp [PyData.depthAll]
  | x :: xs => by rw [List.map_cons, PyData.depthAll, dep0_ints xs, PyData.depth]; rfl
theorem skey_depth (p : List Nat) : (skey p).depth ≤ 2 := by
  have h : ∀ xs : List Int, PyData.depth (.tuple [.int p.length, .tuple (xs.map .int)]) ≤ 2 := fun xs => by
    simp [PyData.depth, PyData.depthAll, dep0_ints]
  exact h _
abbrev prD (p : List Cl × Int) : D := .tup [.tup (p.1.map cdT), .int p.2]
def tk (p : List Nat) : List Key := p.map fun i : Nat => Sum.inl (i : Int)
theorem tkey_tp : ∀ p : List Nat, keysD ((p.map fun i : Nat => (i : Int)).map D.int) = some (tk p)
  | [] => rfl
  | i :: p => by
    rw [List.map_cons, List.map_cons, keysD, tkey_tp p]
    rfl
theorem tk_inj {p q : List Nat} (h : tk p = tk q) : p = q := by
  unfold tk at h
  exact (List.map_inj_right (fun x y e => by injection e with e; omega)).mp h
def entF (v : List Nat → Int) (l : List (List Nat)) : List (List Key × D) := l.map fun p => (tk p, .int (v p))
theorem ent_val {v : List Nat → Int} {l : List (List Nat)} {p : List Nat} (h : p ∈ l) : valT (entF v l) (tk p) = some (.int (v p)) := by
  unfold valT entF
  rw [List.find?_map]
  have : (l.find? ((fun kv : List Key × D => decide (kv.1 = tk p)) ∘ fun p => (tk p, D.int (v p)))) = some p := by
    have hs : (l.find? ((fun kv : List Key × D => decide (kv.1 = tk p)) ∘ fun p => (tk p, D.int (v p)))).isSome = true := by
      rw [List.find?_isSome]
      exact ⟨p, h, by simp⟩
    obtain ⟨q, hq⟩ := Option.isSome_iff_exists.mp hs
    rw [hq]
    have := List.find?_some hq
    simp only [Function.comp, decide_eq_true_eq] at this
    rw [tk_inj this]
  rw [this]; rfl
theorem ent_put {v : List Nat → Int} {l : List (List Nat)} {p : List Nat} (h : p ∉ l) : putTD (entF v l) (tk p) (.int (v p)) = entF v (l ++ [p]) := by
  unfold putTD
  have : ((entF v l).any fun kv => decide (kv.1 = tk p)) = false := by
    rw [List.any_eq_false]
    intro kv hkv
    obtain ⟨q, hq, rfl⟩ := List.mem_map.mp hkv
    simp only [decide_eq_true_eq]
    exact fun z => h (by rw [← tk_inj z]; exact hq)
  rw [if_neg (by rw [this]; decide)]
  unfold entF
  rw [List.map_append]; rfl
theorem cut_toN {l : List D} {k : Nat} (h : k ≤ l.length) : Dl.cutD l none (some (k : Int)) = l.take k := by
  unfold Dl.cutD HT.sIx
  simp
  rw [if_neg (by omega)]
  congr 1
  omega
theorem cut_fromN {l : List D} {k : Nat} (h : k ≤ l.length) : Dl.cutD l (some (k : Int)) none = l.drop k := by
  unfold Dl.cutD
  have e1 : HT.sIx l.length 0 (some (k : Int)) = k := by
    show (if (k : Int) < 0 then ((k : Int) + l.length).toNat else min (k : Int).toNat l.length) = k
    rw [if_neg (by omega)]
    omega
  have e2 : HT.sIx l.length l.length none = l.length := rfl
  rw [e1, e2]
  exact List.take_of_length_le (by simp)
theorem maxF_I {d : D} {ns : List Int} {μ : Mem} {R : D → Prop} (hl : lstOf μ d = some (ns.map .int)) (h : R (.int (maxI ns))) : MaxF [d] [.int 0] μ R :=
  i_maxF hl (fun h0 => by subst h0; exact h) (fun _ M m1 m2 => by rw [is_maxI m1 m2]; exact h)
theorem prs_ok {t : Tm} (ok : okT t) (h6 : (ords (cls t)).length ≤ 6) : ∀ x ∈ prs t, x.1.length ≤ 6 ∧ (∀ c ∈ x.1, CdOk c) ∧ 0 ≤ x.2 ∧ x.2 ≤ 1000000 := fun x hx => by
  obtain ⟨p, hp, rfl, _⟩ := prs_mem hx
  refine ⟨by simp only [pick, List.length_map]; have := hp.length_le; simp at this; omega, fun c hc => cls_ok t ok c (((ords_spec (cls t)).2 c).mp (pick_mem hp c hc)), sg_bd t ok⟩
/-! ### the form is a rule's own: it hangs on what the rule tells of each set of calls alone -/
theorem sg_on {S T : List Cl} : ∀ t, okT t → (∀ c ∈ cls t, c ∈ S ↔ c ∈ T) → sg S t = sg T t := by
  refine Tm.ind (fun i o h => ?_) (fun w t o h => ?_) (fun l ih o h => ?_) (fun l ih o h => ?_)
  · rw [sg_lv, sg_lv]
  · rw [cls_cd] at h
    have := h _ List.mem_cons_self
    rw [sg_cd, sg_cd]
    by_cases z : (w, t) ∈ S
    · rw [if_pos z, if_pos (this.mp z)]
    · rw [if_neg z, if_neg fun y => z (this.mpr y)]
  · rw [cls_ls] at h
    rw [sg_ls, sg_ls]
    congr 1
    exact List.map_congr_left fun t ht => ih t ht ((ok_ls.mp o).2 t ht) fun c hc => h c (List.mem_flatten.mpr ⟨_, List.mem_map_of_mem ht, hc⟩)
  · rw [cls_gr] at h
    rw [sg_gr, sg_gr]
    congr 1
    exact List.map_congr_left fun t ht => ih t ht ((ok_gr.mp o).2 t ht) fun c hc => h c (List.mem_flatten.mpr ⟨_, List.mem_map_of_mem ht, hc⟩)
theorem sg_up {S T : List Cl} (h : ∀ c ∈ S, c ∈ T) : ∀ t, okT t → sg S t ≤ sg T t := by
  refine Tm.ind (fun i o => ?_) (fun w t o => ?_) (fun l ih o => ?_) (fun l ih o => ?_)
  · rw [sg_lv, sg_lv]; exact Int.le_refl _
  · rw [sg_cd, sg_cd]
    by_cases z : (w, t) ∈ S
    · rw [if_pos z, if_pos (h _ z)]; exact Int.le_refl _
    · rw [if_neg z]; split <;> decide
  · obtain ⟨o1, o2⟩ := ok_ls.mp o
    obtain ⟨t, ht, e⟩ := minI_map_mem (f := sg T) o1.1
    rw [sg_ls, sg_ls, ← e]
    exact Int.le_trans (minI_le _ (List.mem_map_of_mem ht)) (ih t ht (o2 t ht))
  · obtain ⟨o1, o2⟩ := ok_gr.mp o
    obtain ⟨t, ht, e⟩ := maxI_map_mem (f := sg S) o1.1
    rw [sg_gr, sg_gr, ← e]
    exact Int.le_trans (ih t ht (o2 t ht)) (maxI_le _ (List.mem_map_of_mem ht))
def clt (a b : Cl) : Prop := cle a b = true ∧ a ≠ b
theorem clt_asym {a b : Cl} (h : clt a b) (g : clt b a) : False := h.2 (cle_anti h.1 g.1)
abbrev SS (S : List Cl) : Prop := S.Pairwise clt
theorem SS.nodup {S : List Cl} (h : SS S) : S.Nodup := h.imp fun z => z.2
theorem ords_ss (l : List Cl) : SS (ords l) := by
  have hw : (l.mergeSort cle).Pairwise fun a b => cle a b = true := PySem.W.sort_pairwise cle_tot l
  obtain ⟨h1, h2, _⟩ := dd_inv (l.mergeSort cle) hw _ (Nat.le_refl _)
  rw [List.take_length] at h1 h2
  exact (hw.sublist h1).and h2
theorem ss_sub : ∀ {S U : List Cl}, SS S → SS U → (∀ c ∈ S, c ∈ U) → S.Sublist U
  | [], _, _, _, _ => List.nil_sublist _
  | a :: S, [], _, _, h => nomatch h a List.mem_cons_self
  | a :: S, b :: U, hS, hU, h => by
    obtain ⟨a1, a2⟩ := List.pairwise_cons.mp hS
    obtain ⟨b1, b2⟩ := List.pairwise_cons.mp hU
    by_cases e : a = b
    · subst e
      refine List.Sublist.cons₂ _ (ss_sub a2 b2 fun c hc => ?_)
      rcases List.mem_cons.mp (h c (List.mem_cons_of_mem _ hc)) with z | z
      · exact absurd (a1 c hc) fun y => y.2 z.symm
      · exact z
    · have ha : a ∈ U := (List.mem_cons.mp (h a List.mem_cons_self)).resolve_left e
      have ba := b1 a ha
      refine List.Sublist.cons _ (ss_sub hS b2 fun c hc => ?_)
      rcases List.mem_cons.mp (h c hc) with z | z
      · subst z
        rcases List.mem_cons.mp hc with z | z
        · exact absurd z.symm e
        · exact (clt_asym ba (a1 _ z)).elim
      · exact z
theorem pick_all (cs : List Cl) : pick cs (List.range cs.length) = cs := by
  unfold pick
  apply List.ext_getElem
  · simp
  · intro i h1 h2
    simp [List.getD_eq_getElem?_getD, h2]
theorem pick_sub {cs : List Cl} {p : List Nat} (h : p.Sublist (List.range cs.length)) : (pick cs p).Sublist cs := by
  have := h.map fun i => cs.getD i default
  rw [show (List.range cs.length).map (fun i => cs.getD i default) = cs from pick_all cs] at this
  exact this
theorem sub_pick {cs S : List Cl} (h : S.Sublist cs) : ∃ p, p.Sublist (List.range cs.length) ∧ S = pick cs p := by
  rw [← pick_all cs] at h
  unfold pick at h
  obtain ⟨p, hp, e⟩ := List.sublist_map_iff.mp h
  exact ⟨p, hp, e⟩
theorem pick_erase (cs : List Cl) (p : List Nat) (k : Nat) : pick cs (p.eraseIdx k) = (pick cs p).eraseIdx k := by
  unfold pick
  generalize (fun i => cs.getD i default) = f
  induction p generalizing k with
  | nil => rfl
  | cons a p ih =>
    cases k with
    | zero => rfl
    | succ k => simp [ih]
theorem mem_erase {S : List Cl} (h : S.Nodup) {k : Nat} (hk : k < S.length) {c : Cl} : c ∈ S.eraseIdx k ↔ c ∈ S ∧ c ≠ S[k] := by
  rw [List.mem_eraseIdx_iff_getElem]
  constructor
  · rintro ⟨i, hi, n, rfl⟩
    refine ⟨List.getElem_mem _, fun e => n ?_⟩
    exact (List.getElem_inj h).mp e
  · rintro ⟨h1, h2⟩
    obtain ⟨i, hi, rfl⟩ := List.mem_iff_getElem.mp h1
    exact ⟨i, hi, fun e => h2 (by subst e; rfl), rfl⟩
/-- who stands in the form -/
def Inn (f : List Cl → Int) (x : List Cl × Int) : Prop := SS x.1 ∧ x.2 = f x.1 ∧ 0 < x.2 ∧ ∀ k, k < x.1.length → f (x.1.eraseIdx k) < x.2
theorem prs_inn {t : Tm} (o : okT t) (x : List Cl × Int) : x ∈ prs t ↔ Inn (fun S => sg S t) x := by
  obtain ⟨n1, n2⟩ := ords_spec (cls t)
  have ss := ords_ss (cls t)
  have gd : ∀ p, good t (ords (cls t)) p = true ↔ 0 < sv t (ords (cls t)) p ∧ ∀ k, k < p.length → sv t (ords (cls t)) (p.eraseIdx k) < sv t (ords (cls t)) p := fun p => by
    unfold good
    rw [decide_eq_true_eq]
    constructor
    · intro h
      have hk : ∀ k, k < p.length → sv t (ords (cls t)) (p.eraseIdx k) ≤ maxI (lessers t (ords (cls t)) p) := fun k hk => maxI_le _ (List.mem_map.mpr ⟨k, List.mem_range.mpr hk, rfl⟩)
      refine ⟨?_, fun k h1 => Int.lt_of_le_of_lt (hk k h1) h⟩
      by_cases e : p = []
      · subst e
        have : maxI (lessers t (ords (cls t)) []) = 0 := rfl
        omega
      · have h1 := hk 0 (List.length_pos_iff.mpr e)
        have h2 := (sg_bd (S := pick (ords (cls t)) (p.eraseIdx 0)) t o).1
        unfold sv at h1
        omega
    · rintro ⟨h1, h2⟩
      by_cases e : p = []
      · subst e
        exact h1
      · obtain ⟨k, hk, e⟩ := List.mem_map.mp (maxI_mem (l := lessers t (ords (cls t)) p) (by unfold lessers; rw [List.length_map, List.length_range]; exact List.length_pos_iff.mpr e))
        rw [← e]
        exact h2 k (List.mem_range.mp hk)
  constructor
  · intro h
    obtain ⟨p, hp, rfl, g⟩ := prs_mem h
    obtain ⟨g1, g2⟩ := (gd p).mp g
    refine ⟨ss.sublist (pick_sub hp), rfl, g1, fun k hk => ?_⟩
    have hk : k < p.length := by simpa [pick] using hk
    have := g2 k hk
    unfold sv at this
    rw [pick_erase] at this
    exact this
  · obtain ⟨S, s⟩ := x
    rintro ⟨h1, h2, h3, h4⟩
    dsimp only at h1 h2 h3 h4
    have hin : ∀ c ∈ S, c ∈ ords (cls t) := fun c hc => by
      rw [n2]
      obtain ⟨k, hk, e⟩ := List.mem_iff_getElem.mp hc
      by_cases z : c ∈ cls t
      · exact z
      · exfalso
        have := h4 k hk
        rw [sg_on (T := S) t o fun d hd => by rw [mem_erase h1.nodup hk]; exact ⟨fun y => y.1, fun y => ⟨y, fun y2 => z (by rw [← e, ← y2]; exact hd)⟩⟩] at this
        omega
    obtain ⟨p, hp, rfl⟩ := sub_pick (ss_sub h1 ss hin)
    subst h2
    refine List.mem_map.mpr ⟨p, List.mem_filter.mpr ⟨mem_sbs.mpr hp, (gd p).mpr ⟨h3, fun k hk => ?_⟩⟩, rfl⟩
    have := h4 k (by simpa [pick] using hk)
    rw [← pick_erase] at this
    exact this
/-! the order of the pairs -/
inductive LexC : List Cl → List Cl → Prop
  | nil {a l} : LexC [] (a :: l)
  | rel {a b l m} : clt a b → LexC (a :: l) (b :: m)
  | cons {a l m} : LexC l m → LexC (a :: l) (a :: m)
theorem LexC.asym {l m : List Cl} (h : LexC l m) : ¬ LexC m l := by
  induction h with
  | nil => intro g; cases g
  | rel h => intro g; cases g with
    | rel g => exact clt_asym h g
    | cons g => exact h.2 rfl
  | cons h ih => intro g; cases g with
    | rel g => exact g.2 rfl
    | cons g => exact ih g
def plt (x y : List Cl × Int) : Prop := x.1.length < y.1.length ∨ (x.1.length = y.1.length ∧ LexC x.1 y.1)
theorem plt_asym {x y : List Cl × Int} (h : plt x y) (g : plt y x) : False := by
  rcases h with h | ⟨h, h2⟩ <;> rcases g with g | ⟨g, g2⟩
  · omega
  · omega
  · omega
  · exact h2.asym g2
theorem lex_pick {cs : List Cl} (ss : SS cs) : ∀ {p q : List Nat}, (∀ i ∈ p, i < cs.length) → (∀ i ∈ q, i < cs.length) → (p.map fun i : Nat => (i : Int)) < (q.map fun i : Nat => (i : Int)) → LexC (pick cs p) (pick cs q)
  | p, [], _, _, h => by cases p <;> exact absurd h (by simp)
  | [], j :: q, _, _, _ => .nil
  | i :: p, j :: q, h1, h2, h => by
    rw [List.map_cons, List.map_cons, List.cons_lt_cons_iff] at h
    rcases h with h | ⟨e, h⟩
    · have hi := h1 i List.mem_cons_self
      have hj := h2 j List.mem_cons_self
      refine .rel ?_
      have := List.pairwise_iff_getElem.mp ss i j hi hj (by omega)
      simpa [List.getD_eq_getElem?_getD, hi, hj] using this
    · have : i = j := by omega
      subst this
      exact .cons (lex_pick ss (fun k hk => h1 k (List.mem_cons_of_mem _ hk)) (fun k hk => h2 k (List.mem_cons_of_mem _ hk)) h)
theorem eqvs_ints : ∀ xs ys : List Int, PyData.eqvAll (xs.map .int) (ys.map .int) = true → xs = ys
  | [], [], _ => rfl
  | [], y :: ys, e => by simp [PyData.eqvAll] at e
  | x :: xs, [], e => by simp [PyData.eqvAll] at e
  | x :: xs, y :: ys, e => by
    rw [List.map_cons, List.map_cons, PyData.eqvAll, Bool.and_eq_true] at e
    have h1 : x = y := by simpa [PyData.eqv] using e.1
    rw [h1, eqvs_ints xs ys e.2]
theorem skey_lt {p q : List Nat} (hl : p.length = q.length) (hn : p ≠ q) (h : PySem.W.dataLe false skey p q = true) : (p.map fun i : Nat => (i : Int)) < (q.map fun i : Nat => (i : Int)) := by
  rw [PySem.W.dataLe_eq] at h
  have h : (!PySem.W.dataLt (skey q) (skey p)) = true := h
  rw [Bool.not_eq_true'] at h
  unfold skey at h
  have gen : ∀ xs ys : List Int, PySem.W.dataLt (.tuple [.int q.length, .tuple (xs.map .int)]) (.tuple [.int p.length, .tuple (ys.map .int)]) = false → ¬ xs < ys := fun xs ys h z => by
    rw [PySem.W.dataLt_pair (by simp [PySem.W.alike]) (by unfold PySem.W.alike; exact PySem.W.alike_ints _ _)] at h
    rw [if_pos (by simp [PyData.eqv]; omega)] at h
    have e2 : PySem.W.dataLt (.tuple (xs.map .int)) (.tuple (ys.map .int)) = decide (xs < ys) := by
      rw [PySem.W.dataLt_tuple]; exact PySem.W.dataLt_ints xs ys
    by_cases e : PyData.eqv (.tuple (xs.map .int)) (.tuple (ys.map .int)) = true
    · have : xs = ys := eqvs_ints xs ys (by simpa [PyData.eqv] using e)
      rw [this] at z
      exact List.lt_irrefl _ z
    · rw [if_neg e, e2, decide_eq_true z] at h
      cases h
  have := gen _ _ h
  have ne : (p.map fun i : Nat => (i : Int)) ≠ (q.map fun i : Nat => (i : Int)) := fun z => hn ((List.map_inj_right (fun x y e => by omega)).mp z)
  rcases List.le_total (q.map fun i : Nat => (i : Int)) (p.map fun i : Nat => (i : Int)) with z | z
  · exact (Decidable.byContradiction fun y => ne (List.le_antisymm (List.not_lt.mp this) (List.not_lt.mp y)))
  · exact (Decidable.byContradiction fun y => ne (List.le_antisymm z (List.not_lt.mp y)))
theorem prs_up (t : Tm) : (prs t).Pairwise plt := by
  unfold prs
  have ss := ords_ss (cls t)
  generalize ords (cls t) = cs at ss
  refine List.pairwise_map.mpr ?_
  have h : (sbs cs.length).Pairwise fun p q => PySem.W.dataLe false skey p q = true := PySem.W.sort_pairwise (PySem.W.sortLe_total _ _ _) _
  refine ((List.Pairwise.and_mem.mp (h.and (sbs_nodup cs.length))).filter _).imp fun {p q} ⟨hp, hq, h1, h2⟩ => ?_
  have hp := mem_sbs.mp hp
  have hq := mem_sbs.mp hq
  have hl := skey_le h1
  unfold plt
  simp only [pick, List.length_map]
  rcases Nat.lt_or_eq_of_le hl with z | z
  · exact .inl z
  · exact .inr ⟨z, lex_pick ss (fun i hi => List.mem_range.mp (hp.subset hi)) (fun i hi => List.mem_range.mp (hq.subset hi)) (skey_lt z h2 h1)⟩
theorem prs_one {a b : Tm} (oa : okT a) (ob : okT b) (h : ∀ S, sg S a = sg S b) : prs a = prs b := by
  have nd : ∀ t, (prs t).Nodup := fun t => List.Pairwise.imp (fun {x y} (h : plt x y) (e : x = y) => by subst e; exact plt_asym h h) (prs_up t)
  refine List.Perm.eq_of_pairwise (le := plt) (fun x y _ _ h1 h2 => (plt_asym h1 h2).elim) (prs_up a) (prs_up b) ((List.perm_ext_iff_of_nodup (nd a) (nd b)).mpr fun x => ?_)
  rw [prs_inn oa, prs_inn ob]
  have : (fun S => sg S a) = fun S => sg S b := funext h
  rw [this]
/-! the form, written as a rule -/
theorem le_minI {l : List Int} (h : 0 < l.length) {x : Int} : x ≤ minI l ↔ ∀ b ∈ l, x ≤ b := ⟨fun z b hb => Int.le_trans z (minI_le b hb), fun z => z _ (minI_mem h)⟩
theorem le_maxI {l : List Int} (h : 0 < l.length) {x : Int} : x ≤ maxI l ↔ ∃ b ∈ l, x ≤ b := ⟨fun z => ⟨_, maxI_mem h, z⟩, fun ⟨b, hb, z⟩ => Int.le_trans z (maxI_le b hb)⟩
abbrev cdM (c : Cl) : Tm := .cd c.1 c.2
def wrP (p : List Cl × Int) : Tm := if p.1 = [] then .lv p.2 else .ls (.lv p.2 :: p.1.map cdM)
def wr : List (List Cl × Int) → Tm
  | [] => .lv 0
  | [p] => wrP p
  | p :: q :: ps => .gr ((p :: q :: ps).map wrP)
structure PsOk (ps : List (List Cl × Int)) : Prop where
  n : ps.length ≤ 8
  p : ∀ x ∈ ps, x.1.length ≤ 3 ∧ (∀ c ∈ x.1, CdOk c) ∧ 0 ≤ x.2 ∧ x.2 ≤ 1000000
theorem wrP_ok {x : List Cl × Int} (h : x.1.length ≤ 3 ∧ (∀ c ∈ x.1, CdOk c) ∧ 0 ≤ x.2 ∧ x.2 ≤ 1000000) : okT (wrP x) ∧ dp (wrP x) ≤ 2 ∧ rul (wrP x) ≤ 5 := by
  obtain ⟨h1, h2, h3⟩ := h
  have sm : ∀ l : List Cl, ruls (l.map cdM) = l.length := by
    intro l
    induction l with
    | nil => rw [List.map_nil, ruls]; rfl
    | cons a l ih => rw [List.map_cons, ruls, ih, rul_cd, List.length_cons]; omega
  have sd : ∀ l : List Cl, dps (l.map cdM) ≤ 1 := fun l => dps_le fun t ht => by
    obtain ⟨c, _, rfl⟩ := List.mem_map.mp ht
    rw [dp_cd]; omega
  unfold wrP
  split
  · rw [dp_lv, rul_lv]
    exact ⟨ok_lv.mpr h3, by omega, by omega⟩
  · rename_i hne
    have hp : 0 < x.1.length := List.length_pos_iff.mpr hne
    have r1 : ruls (.lv x.2 :: x.1.map cdM) ≤ 4 := by rw [ruls, rul_lv, sm]; omega
    have d1 : dps (.lv x.2 :: x.1.map cdM) ≤ 1 := by rw [dps, dp_lv]; have := sd x.1; omega
    rw [dp_ls, rul_ls]
    refine ⟨ok_ls.mpr ⟨⟨by simp; omega, by simp; omega, by omega, by omega⟩, fun t ht => ?_⟩, by omega, by omega⟩
    rcases List.mem_cons.mp ht with rfl | ht
    · exact ok_lv.mpr h3
    · obtain ⟨c, hc, rfl⟩ := List.mem_map.mp ht
      exact h2 c hc
theorem wr_ok {ps : List (List Cl × Int)} (h : PsOk ps) : okT (wr ps) ∧ dp (wr ps) ≤ 3 := by
  match ps, h with
  | [], _ => exact ⟨ok_lv.mpr (by decide), by rw [wr, dp_lv]; omega⟩
  | [p], h =>
    obtain ⟨h1, h2, _⟩ := wrP_ok (h.p p List.mem_cons_self)
    exact ⟨h1, Nat.le_trans h2 (by decide)⟩
  | p :: q :: ps, h =>
    have hn := h.n
    have r1 : ruls ((p :: q :: ps).map wrP) ≤ ((p :: q :: ps).map wrP).length * 5 := ruls_le fun t ht => by
      obtain ⟨x, hx, rfl⟩ := List.mem_map.mp ht
      exact (wrP_ok (h.p x hx)).2.2
    have d1 : dps ((p :: q :: ps).map wrP) ≤ 2 := dps_le fun t ht => by
      obtain ⟨x, hx, rfl⟩ := List.mem_map.mp ht
      exact (wrP_ok (h.p x hx)).2.1
    rw [List.length_map] at r1
    rw [wr, dp_gr]
    refine ⟨ok_gr.mpr ⟨⟨by simp, by rw [List.length_map]; exact hn, by omega, by omega⟩, fun t ht => ?_⟩, by omega⟩
    obtain ⟨x, hx, rfl⟩ := List.mem_map.mp ht
    exact (wrP_ok (h.p x hx)).1
theorem sg_wrP {S : List Cl} {p : List Cl × Int} {x : Int} (hx : 0 < x) (hb : p.2 ≤ 1000000) : x ≤ sg S (wrP p) ↔ x ≤ p.2 ∧ ∀ c ∈ p.1, c ∈ S := by
  unfold wrP
  split
  · rename_i e
    rw [sg_lv, e]
    exact ⟨fun z => ⟨z, fun _ h => nomatch h⟩, fun z => z.1⟩
  · rw [sg_ls, le_minI (by simp)]
    simp only [List.map_cons, List.mem_cons, forall_eq_or_imp, sg_lv, List.map_map, List.mem_map, forall_exists_index, and_imp, forall_apply_eq_imp_iff₂, Function.comp, sg_cd]
    constructor
    · rintro ⟨h1, h2⟩
      refine ⟨h1, fun c hc => ?_⟩
      have := h2 c hc
      by_cases z : c ∈ S
      · exact z
      · rw [if_neg z] at this; omega
    · rintro ⟨h1, h2⟩
      exact ⟨h1, fun c hc => by rw [if_pos (h2 c hc)]; omega⟩
theorem sg_wr {S : List Cl} {x : Int} (hx : 0 < x) {ps : List (List Cl × Int)} (hb : ∀ p ∈ ps, p.2 ≤ 1000000) : x ≤ sg S (wr ps) ↔ ∃ p ∈ ps, x ≤ p.2 ∧ ∀ c ∈ p.1, c ∈ S := by
  match ps, hb with
  | [], _ =>
    rw [wr, sg_lv]
    exact ⟨fun h => absurd h (by omega), fun ⟨_, h, _⟩ => nomatch h⟩
  | [p], hb =>
    rw [wr, sg_wrP hx (hb p List.mem_cons_self)]
    simp
  | p :: q :: ps, hb =>
    rw [wr, sg_gr, le_maxI (by simp)]
    constructor
    · rintro ⟨b, hb', h⟩
      rw [List.map_map] at hb'
      obtain ⟨y, hy, rfl⟩ := List.mem_map.mp hb'
      exact ⟨y, hy, (sg_wrP hx (hb y hy)).mp h⟩
    · rintro ⟨y, hy, h⟩
      exact ⟨_, by rw [List.map_map]; exact List.mem_map_of_mem hy, (sg_wrP hx (hb y hy)).mpr h⟩
theorem le_of_all {a b : Int} (hb : 0 ≤ b) (h : ∀ x, 0 < x → x ≤ a → x ≤ b) : a ≤ b := by
  by_cases z : 0 < a
  · exact h a z (Int.le_refl _)
  · omega
theorem prs_bd {t : Tm} (o : okT t) : ∀ p ∈ prs t, p.2 ≤ 1000000 := fun p hp => by rw [((prs_inn o p).mp hp).2.1]; exact (sg_bd t o).2
theorem wr_same {t : Tm} (o : okT t) (S : List Cl) (ow : okT (wr (prs t))) : sg S (wr (prs t)) = sg S t := by
  apply Int.le_antisymm
  · refine le_of_all (sg_bd t o).1 fun x hx h => ?_
    obtain ⟨p, hp, h1, h2⟩ := (sg_wr hx (prs_bd o)).mp h
    have i := (prs_inn o p).mp hp
    exact Int.le_trans h1 (by rw [i.2.1]; exact sg_up h2 t o)
  · refine le_of_all (sg_bd _ ow).1 fun x hx h => (sg_wr hx (prs_bd o)).mpr ?_
    obtain ⟨n1, n2⟩ := ords_spec (cls t)
    let cs := ords (cls t)
    let p := (List.range cs.length).filter fun i => decide (cs.getD i default ∈ S)
    have hp : p.Sublist (List.range cs.length) := List.filter_sublist ..
    have s1 : sv t cs p = sg S t := sg_on t o fun c hc => by
      constructor
      · intro h
        obtain ⟨i, hi, rfl⟩ := List.mem_map.mp h
        exact of_decide_eq_true (List.mem_filter.mp hi).2
      · intro h
        obtain ⟨i, hi, e⟩ := List.mem_iff_getElem.mp ((n2 c).mpr hc)
        have e : cs.getD i default = c := by rw [← e]; simp [cs, List.getD_eq_getElem?_getD, hi]
        exact List.mem_map.mpr ⟨i, List.mem_filter.mpr ⟨List.mem_range.mpr hi, decide_eq_true (by rw [e]; exact h)⟩, e⟩
    obtain ⟨q, q1, q2, q3, q4⟩ := go_down (t := t) (cs := cs) (n := cs.length) (x := x) (v := fun c => if c ∈ S then x else 0) hx p.length p rfl hp (by rw [s1]; exact h) fun c hc => by
      obtain ⟨i, hi, rfl⟩ := List.mem_map.mp hc
      rw [if_pos (of_decide_eq_true (List.mem_filter.mp hi).2)]; exact Int.le_refl _
    refine ⟨_, List.mem_map.mpr ⟨q, List.mem_filter.mpr ⟨mem_sbs.mpr q1, q2⟩, rfl⟩, q3, fun c hc => ?_⟩
    by_cases z : c ∈ S
    · exact z
    · have := q4 c hc
      rw [if_neg z] at this; omega
theorem prs_back {t : Tm} (o : okT t) (ow : okT (wr (prs t))) : prs (wr (prs t)) = prs t := prs_one ow o fun S => wr_same o S ow
/-- one pair less: another rule -/
theorem wr_less {t : Tm} (o : okT t) {x : List Cl × Int} {ps qs : List (List Cl × Int)} (e : prs t = ps ++ x :: qs) (ow : okT (wr (ps ++ qs))) : sg x.1 (wr (ps ++ qs)) < sg x.1 t := by
  have hx : x ∈ prs t := by rw [e]; simp
  obtain ⟨i1, i2, i3, i4⟩ := (prs_inn o x).mp hx
  have i2 : x.2 = sg x.1 t := i2
  have nd : (prs t).Nodup := List.Pairwise.imp (fun {x y} (h : plt x y) (e : x = y) => by subst e; exact plt_asym h h) (prs_up t)
  rw [e] at nd
  have sub : ∀ p ∈ ps ++ qs, p ∈ prs t ∧ p ≠ x := fun p hp => by
    refine ⟨by rw [e]; simp only [List.mem_append, List.mem_cons] at hp ⊢; rcases hp with h | h; exact .inl h; exact .inr (.inr h), fun z => ?_⟩
    subst z
    obtain ⟨a, b, c⟩ := List.nodup_append.mp nd
    rcases List.mem_append.mp hp with h | h
    · exact c p h p (by simp) rfl
    · exact (List.nodup_cons.mp b).1 h
  refine Decidable.byContradiction fun z => ?_
  have z : x.2 ≤ sg x.1 (wr (ps ++ qs)) := by rw [i2]; omega
  obtain ⟨p, hp, h1, h2⟩ := (sg_wr i3 fun p hp => prs_bd o p (sub p hp).1).mp z
  obtain ⟨p1, pn⟩ := sub p hp
  obtain ⟨j1, j2, j3, j4⟩ := (prs_inn o p).mp p1
  by_cases all : ∀ c ∈ x.1, c ∈ p.1
  · apply pn
    have : p.1 = x.1 := List.Sublist.eq_of_length_le (ss_sub j1 i1 h2) (ss_sub i1 j1 all).length_le
    exact Prod.ext this (by rw [j2, i2, this])
  · obtain ⟨c, hc⟩ := Classical.not_forall.mp all
    obtain ⟨hc, hn⟩ := Classical.not_imp.mp hc
    obtain ⟨k, hk, rfl⟩ := List.mem_iff_getElem.mp hc
    have := i4 k hk
    have h3 : sg p.1 t ≤ sg (x.1.eraseIdx k) t := sg_up (fun d hd => (mem_erase i1.nodup hk).mpr ⟨h2 d hd, fun y => hn (by rw [← y]; exact hd)⟩) t o
    dsimp only at this j2
    omega
/-! a book in which just some calls are at the top -/
def bkRow (k : Str) (S : List Cl) (z : Case) (c : Cl) : Row := ⟨c.2.getD z.town, k, whAt z c.1, if c ∈ S then 1000000 else 0⟩
structure Beside (cs : List Cl) (z : Case) : Prop where
  ok : CaseOk z
  t : ∀ c ∈ cs, c.2 ≠ some z.town
  d : ∀ c ∈ cs, c.1 ≠ .day z.made ∧ c.1 ≠ .day z.paid
  l : z.made < z.paid
theorem bk_inj {cs : List Cl} {z : Case} (B : Beside cs z) {c d : Cl} (hc : c ∈ cs) (hd : d ∈ cs) (h1 : c.2.getD z.town = d.2.getD z.town) (h2 : whAt z c.1 = whAt z d.1) : c = d := by
  have tc := B.t c hc
  have td := B.t d hd
  obtain ⟨mc, pc⟩ := B.d c hc
  obtain ⟨md, pd⟩ := B.d d hd
  have l := B.l
  obtain ⟨w, t⟩ := c
  obtain ⟨u, s⟩ := d
  dsimp only at h1 h2 tc td mc pc md pd
  have e1 : t = s := by
    cases t with
    | none => cases s with
      | none => rfl
      | some x => exact absurd (by rw [show x = z.town from h1.symm]) td
    | some y => cases s with
      | none => exact absurd (by rw [show y = z.town from h1]) tc
      | some x => rw [show y = x from h1]
  have e2 : w = u := by
    match w, u, h2, mc, pc, md, pd with
    | .made, .made, _, _, _, _, _ => rfl
    | .paid, .paid, _, _, _, _, _ => rfl
    | .made, .paid, h2, _, _, _, _ => exact absurd (show z.made = z.paid from h2) (by omega)
    | .paid, .made, h2, _, _, _, _ => exact absurd (show z.paid = z.made from h2) (by omega)
    | .made, .day n, h2, _, _, md, _ => exact absurd (by rw [show z.made = n from h2]) md
    | .paid, .day n, h2, _, _, _, pd => exact absurd (by rw [show z.paid = n from h2]) pd
    | .day n, .made, h2, mc, _, _, _ => exact absurd (by rw [show n = z.made from h2]) mc
    | .day n, .paid, h2, _, pc, _, _ => exact absurd (by rw [show n = z.paid from h2]) pc
    | .day n, .day m, h2, _, _, _, _ => rw [show n = m from h2]
  rw [e1, e2]
theorem wOf_one {rows : List Row} {r0 : Row} (h0 : r0 ∈ rows) (h : ∀ r ∈ rows, r.t = r0.t → r.k = r0.k → r.d = r0.d → r.w = r0.w) (hd : 0 ≤ r0.d) : wOf rows r0.t r0.k r0.d = r0.w := by
  have gen : ∀ (l : List Row) (s : Int × Int), (∀ r ∈ l, r.t = r0.t → r.k = r0.k → r.d = r0.d → r.w = r0.w) → s.1 ≤ r0.d → (s.1 = r0.d → s.2 = r0.w) →
      (l.foldl (wStep r0.t r0.k r0.d) s).1 ≤ r0.d ∧ ((l.foldl (wStep r0.t r0.k r0.d) s).1 = r0.d → (l.foldl (wStep r0.t r0.k r0.d) s).2 = r0.w) ∧ (s.1 = r0.d ∨ r0 ∈ l → (l.foldl (wStep r0.t r0.k r0.d) s).1 = r0.d) := by
    intro l
    induction l with
    | nil => intro s _ h1 h2; exact ⟨h1, h2, fun z => z.resolve_right fun y => nomatch y⟩
    | cons r l ih =>
      intro s g h1 h2
      rw [List.foldl_cons]
      have g1 := g r List.mem_cons_self
      have g2 := fun x hx => g x (List.mem_cons_of_mem _ hx)
      by_cases m : r.t = r0.t ∧ r.k = r0.k ∧ s.1 ≤ r.d ∧ r.d ≤ r0.d
      · have e : wStep r0.t r0.k r0.d s r = (r.d, r.w) := if_pos m
        rw [e]
        obtain ⟨a, b, c⟩ := ih (r.d, r.w) g2 m.2.2.2 (fun z => g1 m.1 m.2.1 z)
        refine ⟨a, b, fun z => c ?_⟩
        rcases z with z | z
        · left
          have := m.2.2
          show r.d = r0.d
          omega
        · rcases List.mem_cons.mp z with z | z
          · left; rw [← z]
          · exact .inr z
      · have e : wStep r0.t r0.k r0.d s r = s := if_neg m
        rw [e]
        obtain ⟨a, b, c⟩ := ih s g2 h1 h2
        refine ⟨a, b, fun z => c ?_⟩
        rcases z with z | z
        · exact .inl z
        · rcases List.mem_cons.mp z with z | z
          · exact absurd ⟨by rw [z], by rw [z], by rw [← z]; exact h1, by rw [z]; exact Int.le_refl _⟩ m
          · exact .inr z
  obtain ⟨_, b, c⟩ := gen rows (-1, 0) h (by show (-1 : Int) ≤ _; omega) (fun z => by have z : (-1 : Int) = r0.d := z; omega)
  exact b (c (.inr h0))
theorem bk_ok {cs S : List Cl} {z : Case} {k : Str} (B : Beside cs z) (hk : isName k = true) (co : ∀ c ∈ cs, CdOk c) : ∀ r ∈ cs.map (bkRow k S z), RowOk r := fun r hr => by
  obtain ⟨c, hc, rfl⟩ := List.mem_map.mp hr
  obtain ⟨hw, ht⟩ := ok_cd.mp (co c hc)
  refine ⟨?_, hk, ?_, ?_⟩
  · show isName (c.2.getD z.town) = true
    cases e : c.2 with
    | none => exact B.ok.t
    | some x => rw [e] at ht; exact ht
  · show 0 ≤ whAt z c.1 ∧ whAt z c.1 ≤ 9999
    cases e : c.1 with
    | made => exact B.ok.m
    | paid => exact B.ok.p
    | day n => rw [e] at hw; exact hw
  · show 0 ≤ (if c ∈ S then (1000000 : Int) else 0) ∧ (if c ∈ S then (1000000 : Int) else 0) ≤ 1000000
    split <;> decide
theorem vOf_bk {cs S : List Cl} {z : Case} {k : Str} (B : Beside cs z) (hk : isName k = true) (co : ∀ c ∈ cs, CdOk c) {c : Cl} (hc : c ∈ cs) : vOf (cs.map (bkRow k S z)) k z c = if c ∈ S then 1000000 else 0 := by
  have h0 : bkRow k S z c ∈ cs.map (bkRow k S z) := List.mem_map_of_mem hc
  exact wOf_one h0 (fun r hr h1 _ h3 => by
    obtain ⟨d, hd, rfl⟩ := List.mem_map.mp hr
    rw [bk_inj B hd hc h1 h3]) (bk_ok B hk co _ h0).d.1
theorem tw_bk {cs S : List Cl} {z : Case} {k : Str} (B : Beside cs z) (hk : isName k = true) (co : ∀ c ∈ cs, CdOk c) : ∀ t, okT t → (∀ c ∈ cls t, c ∈ cs) → tw (cs.map (bkRow k S z)) k z t = sg S t := by
  refine Tm.ind (fun i o h => ?_) (fun w t o h => ?_) (fun l ih o h => ?_) (fun l ih o h => ?_)
  · rw [tw_lv, sg_lv]
  · rw [cls_cd] at h
    rw [tw_cd, sg_cd]
    exact vOf_bk B hk co (h _ List.mem_cons_self)
  · rw [cls_ls] at h
    rw [tw_ls, sg_ls]
    congr 1
    exact List.map_congr_left fun t ht => ih t ht ((ok_ls.mp o).2 t ht) fun c hc => h c (List.mem_flatten.mpr ⟨_, List.mem_map_of_mem ht, hc⟩)
  · rw [cls_gr] at h
    rw [tw_gr, sg_gr]
    congr 1
    exact List.map_congr_left fun t ht => ih t ht ((ok_gr.mp o).2 t ht) fun c hc => h c (List.mem_flatten.mpr ⟨_, List.mem_map_of_mem ht, hc⟩)
theorem sg_pick {t : Tm} (o : okT t) {cs : List Cl} (h : ∀ c ∈ cls t, c ∈ cs) (S : List Cl) : sg (pick cs ((List.range cs.length).filter fun i => decide (cs.getD i default ∈ S))) t = sg S t := sg_on t o fun c hc => by
  constructor
  · intro h
    obtain ⟨i, hi, rfl⟩ := List.mem_map.mp h
    exact of_decide_eq_true (List.mem_filter.mp hi).2
  · intro hS
    obtain ⟨i, hi, e⟩ := List.mem_iff_getElem.mp (h c hc)
    have e : cs.getD i default = c := by rw [← e]; simp [List.getD_eq_getElem?_getD, hi]
    exact List.mem_map.mpr ⟨i, List.mem_filter.mpr ⟨List.mem_range.mpr hi, decide_eq_true (by rw [e]; exact hS)⟩, e⟩
theorem inD_wh {n : Int} : ∀ {ws : List Wh}, inD (.int n) (ws.map whD) = decide (Wh.day n ∈ ws)
  | [] => rfl
  | w :: ws => by
    have ih := inD_wh (n := n) (ws := ws)
    unfold inD inV at ih ⊢
    rw [List.map_cons, List.map_cons, List.any_cons, ih]
    cases w with
    | made => simp [whD, Dl.vOf, eqV]
    | paid => simp [whD, Dl.vOf, eqV]
    | day m =>
      by_cases e : m = n
      · simp [whD, Dl.vOf, eqV, e]
      · have : ¬ n = m := fun z => e z.symm
        simp [whD, Dl.vOf, eqV, e, this]
theorem flat_wh (ws : List Wh) : (ws.map whD).all flatD = true := by
  rw [List.all_eq_true]
  intro d hd
  obtain ⟨w, _, rfl⟩ := List.mem_map.mp hd
  cases w <;> rfl
theorem inD_to {x : Str} : ∀ {ws : List (Option Str)}, inD (.str x) (ws.map toD) = decide (some x ∈ ws)
  | [] => rfl
  | w :: ws => by
    have ih := inD_to (x := x) (ws := ws)
    unfold inD inV at ih ⊢
    rw [List.map_cons, List.map_cons, List.any_cons, ih]
    cases w with
    | none => simp [toD, Dl.vOf, eqV]
    | some m =>
      by_cases e : m = x
      · simp [toD, Dl.vOf, eqV, e]
      · have : ¬ x = m := fun z => e z.symm
        simp [toD, Dl.vOf, eqV, e, this]
theorem flat_to (ws : List (Option Str)) : (ws.map toD).all flatD = true := by
  rw [List.all_eq_true]
  intro d hd
  obtain ⟨w, _, rfl⟩ := List.mem_map.mp hd
  cases w <;> rfl
theorem nodup_leA {α : Type} [DecidableEq α] : ∀ {l U : List α}, l.Nodup → (∀ c ∈ l, c ∈ U) → l.length ≤ U.length
  | [], _, _, _ => Nat.zero_le _
  | a :: l, U, h, g => by
    have ha := g a List.mem_cons_self
    have := nodup_leA (l := l) (U := U.erase a) (List.nodup_cons.mp h).2 fun c hc => (List.mem_erase_of_ne fun z => (List.nodup_cons.mp h).1 (by rw [← z]; exact hc)).mpr (g c (List.mem_cons_of_mem _ hc))
    rw [List.length_erase_of_mem ha] at this
    have := List.length_pos_of_mem ha
    rw [List.length_cons]; omega
theorem home_of {ws : List (Option Str)} (h : ws.length ≤ 6) : ∃ (home : Str) (rest : List D), isName home = true ∧ some home ∉ ws ∧ (([ "a", "b", "c", "d", "e", "f", "g"] : List Str).filterMap fun x : Str => if some x ∈ ws then none else some (D.str x)) = .str home :: rest := by
  have nd : (([ "a", "b", "c", "d", "e", "f", "g"] : List Str).map some).Nodup := by decide +kernel
  have nm : ∀ x ∈ ([ "a", "b", "c", "d", "e", "f", "g"] : List Str), isName x = true := by decide +kernel
  have len : (([ "a", "b", "c", "d", "e", "f", "g"] : List Str).map some).length = 7 := rfl
  generalize ([ "a", "b", "c", "d", "e", "f", "g"] : List Str) = l at nd nm len
  cases hf : l.filterMap fun x : Str => if some x ∈ ws then none else some (D.str x) with
  | nil =>
    exfalso
    have := nodup_leA (U := ws) nd fun y hy => by
      obtain ⟨x, hx, rfl⟩ := List.mem_map.mp hy
      have := List.filterMap_eq_nil_iff.mp hf x hx
      by_cases z : some x ∈ ws
      · exact z
      · rw [if_neg z] at this; cases this
    omega
  | cons d rest =>
    have hd : d ∈ l.filterMap fun x : Str => if some x ∈ ws then none else some (D.str x) := by rw [hf]; exact List.mem_cons_self
    obtain ⟨x, hx, e⟩ := List.mem_filterMap.mp hd
    by_cases z : some x ∈ ws
    · rw [if_pos z] at e; cases e
    · rw [if_neg z] at e
      cases e
      exact ⟨x, rest, nm x hx, z, rfl⟩
def kwh : Wh → Key
  | .made => .inr "made"
  | .paid => .inr "paid"
  | .day n => .inl n
theorem keyD_wh (w : Wh) : keyD (whD w) = some (kwh w) := by cases w <;> rfl
theorem val_wh {w : Wh} {z : Case} : (valD [(.inr "made", .int z.made), (.inr "paid", .int z.paid)] (kwh w)).getD (whD w) = .int (whAt z w) := by
  have ne : ¬ (Str.ofString "made" = Str.ofString "paid") := by decide +kernel
  cases w <;> simp [valD, kwh, whAt, whD, ne]
theorem al_lit (w : Str) (h : (w.cps.toList.all fun c => decide (c < 0x110000)) = true) : plD 1 (.str w) := pl_str (lit_cp h)
theorem pl_call {c : Cl} (h : CdOk c) : plD 2 (.tup [.str "called", whD c.1, toD c.2]) := pl_tup (pls_cons (al_lit _ (by decide +kernel)) (pls_cons (pl_wh c.1) (pls_cons (pl_to (cd_wh h).2) pls_nil)))
theorem told_wrP (x : List Cl × Int) : toldD (wrP x) = if x.1 = [] then .tup [.str "level", .int x.2] else .tup (.str "least" :: .tup [.str "level", .int x.2] :: x.1.map fun c => .tup [.str "called", whD c.1, toD c.2]) := by
  unfold wrP
  split
  · rw [to_lv]
  · rw [to_ls, List.map_cons, to_lv, List.map_map]
    congr 3
theorem pl_wrP {x : List Cl × Int} (h : ∀ c ∈ x.1, CdOk c) : plD 3 (toldD (wrP x)) := by
  rw [told_wrP]
  have l2 : plD 2 (.tup [.str "level", .int x.2]) := pl_tup (pls_cons (al_lit _ (by decide +kernel)) (pls_cons pl_int pls_nil))
  split
  · exact l2.mono (by decide)
  · exact pl_tup (pls_cons ((al_lit _ (by decide +kernel)).mono (by decide)) (pls_cons l2 (pls_map fun c hc => pl_call (h c hc))))
theorem pl_prs {ps : List (List Cl × Int)} (h : ∀ x ∈ ps, ∀ c ∈ x.1, CdOk c) : plD 5 (.tup (ps.map prD)) := pl_tup (pls_map fun x hx => pl_tup (pls_cons (pl_tup (pls_cd (h x hx))) (pls_cons (pl_int.mono (by decide)) pls_nil)))
theorem eq_pr (x y : List Cl × Int) : eqD (prD x) (prD y) = decide (x = y) := by
  rw [eqD_tup, eqDs_cons, eqDs_cons, eqDs_nil, eqD_tup, eqDs_map _ _ (fun a _ b _ => eq_cd a b), eqD_int]
  obtain ⟨a, b⟩ := x
  obtain ⟨a', b'⟩ := y
  by_cases h1 : a = a' <;> by_cases h2 : b = b' <;> simp [h1, h2]
theorem eq_prs (ps qs : List (List Cl × Int)) : eqD (.tup (ps.map prD)) (.tup (qs.map prD)) = decide (ps = qs) := by
  rw [eqD_tup, eqDs_map _ _ (fun a _ b _ => eq_pr a b)]
theorem al_prs {ps : List (List Cl × Int)} (hl : ps.length ≤ 100) (h : ∀ x ∈ ps, x.1.length ≤ 6 ∧ ∀ c ∈ x.1, CdOk c) : AlD 12 (.tup (ps.map prD)) := by
  refine .inr (.inr (.inr ⟨_, rfl, by rw [List.length_map]; omega, fun d hd => ?_⟩))
  obtain ⟨x, hx, rfl⟩ := List.mem_map.mp hd
  obtain ⟨h1, h2⟩ := h x hx
  refine .inr (.inr (.inr ⟨_, rfl, by simp, fun d hd => ?_⟩))
  simp only [List.mem_cons, List.not_mem_nil, or_false] at hd
  rcases hd with rfl | rfl
  · refine .inr (.inr (.inr ⟨_, rfl, by rw [List.length_map]; omega, fun d hd => ?_⟩))
    obtain ⟨c, hc, rfl⟩ := List.mem_map.mp hd
    refine .inr (.inr (.inr ⟨_, rfl, by simp, fun d hd => ?_⟩))
    simp only [List.mem_cons, List.not_mem_nil, or_false] at hd
    rcases hd with rfl | rfl
    · exact al_wh2.mono (by decide)
    · exact (al_to (cd_wh (h2 c hc)).2).mono (by decide)
  · exact .inr (.inr (.inl ⟨_, rfl⟩))
theorem cls_wrP (x : List Cl × Int) : ∀ c ∈ cls (wrP x), c ∈ x.1 := fun c hc => by
  unfold wrP at hc
  split at hc
  · rw [cls_lv] at hc; cases hc
  · rw [cls_ls] at hc
    obtain ⟨q, hq, hc⟩ := List.mem_flatten.mp hc
    obtain ⟨t, ht, rfl⟩ := List.mem_map.mp hq
    rcases List.mem_cons.mp ht with rfl | ht
    · rw [cls_lv] at hc; cases hc
    · obtain ⟨d, hd, rfl⟩ := List.mem_map.mp ht
      rw [cls_cd] at hc
      rw [List.mem_singleton.mp hc]; exact hd
theorem cls_wr {ps : List (List Cl × Int)} {U : List Cl} (h : ∀ x ∈ ps, ∀ c ∈ x.1, c ∈ U) : ∀ c ∈ cls (wr ps), c ∈ U := fun c hc => by
  match ps, h, hc with
  | [], _, hc => rw [wr, cls_lv] at hc; cases hc
  | [x], h, hc => exact h x List.mem_cons_self c (cls_wrP x c hc)
  | x :: y :: r, h, hc =>
    rw [wr, cls_gr] at hc
    obtain ⟨q, hq, hc⟩ := List.mem_flatten.mp hc
    obtain ⟨t, ht, rfl⟩ := List.mem_map.mp hq
    obtain ⟨z, hz, rfl⟩ := List.mem_map.mp ht
    exact h z hz c (cls_wrP z c hc)
variable {P : Program} {w : World} {K : PySem.W.Frag} {mg : Str → Option Value} {base : Heap}
/-! ### _law_mixed: 0 _law_cell, 1 _law_k, 2 _law_mix -/
abbrev N__law_mixed : List Str := ["_law_cell", "_law_k", "_law_mix"]
theorem sc__law_mixed : FnScope N__law_mixed ["_law_cell", "_law_k"] (defScope s__law_mixed) := ⟨rfl, rfl, rfl, by decide +kernel, rfl, by decide +kernel, by decide +kernel⟩
def sp__law_mixed : DSp := Sp2 fun a b μ Q _ => ∃ c k : Int, a = .int c ∧ b = .int k ∧ 0 ≤ k ∧ k ≤ 126 ∧ ∀ r : Int, 0 ≤ r → r < 2147483399 → Q (.int r) μ
instance st_sp__law_mixed {a b : D} {μ : Mem} {Q : QM} {u4 : DX} : Step (sp__law_mixed [a, b] μ Q u4) (∃ c k : Int, a = .int c ∧ b = .int k ∧ 0 ≤ k ∧ k ≤ 126 ∧ ∀ r : Int, 0 ≤ r → r < 2147483399 → Q (.int r) μ) := ⟨fun h => ⟨_, _, rfl, h⟩⟩
def rd__law_mixed (E : DX) : DS := (dSeq (dSet 2 (dOp rdMod (dOp rdPow (dOp rdMod (dOp rdMul (dOp rdAdd (dOp rdAdd (dOp rdMod (dVar 0) (dC (.int 2147483399))) (dOp rdMul (dC (.int 104729)) (dVar 1))) (dC (.int 11))) (dC (.int 48271))) (dC (.int 2147483399))) (dC (.int 5))) (dC (.int 2147483399))))
  (dSeq (dIfS (dTest (dOp rdLt (dVar 0) (dOp rdPow (dC (.int 10)) (dC (.int 18))))) (dRet (dVar 2)) dNext)
  (dRet (dOp rdMod (dOp rdAdd (dVar 2) (dOp rdMod (dOp rdDiv (dVar 0) (dOp rdPow (dC (.int 10)) (dC (.int 18)))) (dOp rdAdd (dC (.int 1)) (dOp rdMul (dOp rdAdd (dVar 1) (dC (.int 1))) (dC (.int 4014476939333036189094441199026045136645885247730)))))) (dC (.int 2147483399))))))
theorem read__law_mixed : ∀ (a0 a1 : D) (μ : Mem) (Q : QM) (E : DX), sp__law_mixed [a0, a1] μ Q E → rd__law_mixed E ⟨fun _ μ2 => Q .non μ2, Q, fun _ _ => False, fun _ _ => False⟩ [.val a0, .val a1, .no] μ := by
  rintro _ _ μ Q E ⟨_, _, e, c, k, rfl, rfl, h0, h1, kq⟩
  cases e
  unfold rd__law_mixed
  walk_at "au"
  all_goals exact kq _ (by omega) (by omega)
theorem c__law_mixed (T : Txt K mg w) : Cal P w K mg base 1 "_law_mixed" ["_law_cell", "_law_k"] [] sp__law_mixed := by
  refine cal_of T.d__law_mixed sc__law_mixed (fun ds μ Q E h => by obtain ⟨_, _, rfl, _⟩ := h; rfl) (fun _ _ _ _ _ _ us hl => match us, hl with | [_, _], _ => rfl) (fun f Z cdv A outer s H _ E hr M hcd =>
      ⟨_, (ss_cons (s_set (i := 2) sc__law_mixed.nd (d_op o_mod (d_op o_pow (d_op o_mod (d_op o_mul (d_op o_add (d_op o_add (d_op o_mod (d_var 0) d_int) (d_op o_mul d_int (d_var 1))) d_int) d_int) d_int) d_int) d_int))
      (ss_cons (s_if (t_cmp o_lt (d_var 0) (d_op o_pow d_int d_int))
      (ss_one (s_ret (d_var 2)))
      ss_nil)
      (ss_one (s_ret (d_op o_mod (d_op o_add (d_var 2) (d_op o_mod (d_op o_div (d_var 0) (d_op o_pow d_int d_int)) (d_op o_add d_int (d_op o_mul (d_op o_add (d_var 1) d_int) d_int)))) d_int)))))⟩)
    (fun ds μ Q E h => ?_) (rd := rd__law_mixed)
  obtain ⟨b0, b1, e, h⟩ := id h
  subst e
  exact read__law_mixed b0 b1 μ Q E (by assumption)
/-! ### _law_next: 0 _law_draw, 1 _law_size, 2 _law_at, 3 _law_many, 4 _law_cell -/
abbrev N__law_next : List Str := ["_law_draw", "_law_size", "_law_at", "_law_many", "_law_cell"]
theorem sc__law_next : FnScope N__law_next ["_law_draw", "_law_size"] (defScope s__law_next) := ⟨rfl, rfl, rfl, by decide +kernel, rfl, by decide +kernel, by decide +kernel⟩
def sp__law_next : DSp := Sp2 fun a b μ Q _ => ∃ (ns : List Int) (size : Int), a = .drw ns ∧ b = .int size ∧ 0 < size ∧ ∀ r : Int, 0 ≤ r → r < size → Q (.int r) μ
theorem Scr.sh {a : D} {ns : List Int} (h : Scr a ns) : shD a = true := by
  have e : pd a = some (.list (ns.map PyData.int)) := by
    rcases h.is with rfl | rfl
    · show (pds (ns.map D.int)).map PyData.list = _
      rw [pds_ints]; rfl
    · show (pds (ns.map D.int)).map PyData.list = _
      rw [pds_ints]; rfl
  unfold shD
  rw [e]
  show (PyData.canLay0 (.list (ns.map PyData.int)) && decide (PyData.depth (.list (ns.map PyData.int)) ≤ 64)) = true
  have := dep_ints ns
  simp [PyData.canLay0, lay_ints, PyData.depth]
  omega
theorem Scr.eq0 {a : D} {ns : List Int} (h : Scr a ns) : eqD a (.lst []) = decide (ns = []) := by
  have e : pd a = some (.list (ns.map PyData.int)) := by
    rcases h.is with rfl | rfl
    · show (pds (ns.map D.int)).map PyData.list = _
      rw [pds_ints]; rfl
    · show (pds (ns.map D.int)).map PyData.list = _
      rw [pds_ints]; rfl
  unfold eqD
  rw [e]
  show PyData.eqv (.list (ns.map PyData.int)) (.list []) = _
  cases ns with
  | nil => simp [PyData.eqv, PyData.eqvAll]
  | cons n ns => simp [PyData.eqv, PyData.eqvAll]
instance st_sp__law_next {a b : D} {μ : Mem} {Q : QM} {u4 : DX} : Step (sp__law_next [a, b] μ Q u4) (∃ (ns : List Int) (size : Int), a = .drw ns ∧ b = .int size ∧ 0 < size ∧ ∀ r : Int, 0 ≤ r → r < size → Q (.int r) μ) := ⟨fun h => ⟨_, _, rfl, h⟩⟩
def rd__law_next (E : DX) : DS := (dSeq (dSet 2 (dDrw1 (dVar 0)))
  (dSeq (dSetDrw (dVar 0) (dOp rdAdd (dVar 2) (dC (.int 1))))
  (dSeq (dSet 3 (dCB rdMax2 (dCons (dC (.int 1)) (dCons (dCB rdLen (dCons (dDrw0 (dVar 0)) dNil)) dNil))))
  (dSeq (dSet 4 (dC (.int 0)))
  (dSeq (dIfS (dTest (dOp rdNe (dDrw0 (dVar 0)) (dLst dNil))) (dSet 4 (dOp rdIx (dDrw0 (dVar 0)) (dOp rdMod (dVar 2) (dVar 3)))) dNext)
  (dRet (dOp rdMod (dOp rdDiv (dCallX sp__law_mixed [] (XDE E) (dCons (dVar 4) (dCons (dOp rdMod (dOp rdDiv (dVar 2) (dVar 3)) (dC (.int 127))) dNil))) (dC (.int 7))) (dVar 1))))))))
theorem read__law_next : ∀ (a0 a1 : D) (μ : Mem) (Q : QM) (E : DX), sp__law_next [a0, a1] μ Q E → rd__law_next E ⟨fun _ μ2 => Q .non μ2, Q, fun _ _ => False, fun _ _ => False⟩ [.val a0, .val a1, .no, .no, .no] μ := by
  rintro _ _ μ Q E ⟨_, _, e, ns, size, rfl, rfl, hs, kq⟩
  cases e
  unfold rd__law_next
  walk_at "go"
  intro n hn
  walk_at "go"
  refine ⟨by omega, ?_⟩
  walk_at "go"
  intro hl
  walk_at "go"
  rw [List.length_map]
  walk_at "go"
  intro _
  have sc : Scr (.scr (ns.map .int)) ns := ⟨.inl rfl⟩
  walk_at "go"
  refine i_ne sc.sh rfl ?_
  rw [sc.eq0]
  walk_at "go"
  refine ite_nd (fun h => ?_) (fun h => ?_)
  · walk_at "go"
    intro _
    walk_at "go"
    have hpos : 0 < ns.length := List.length_pos_iff.mpr h
    have e0 : max 1 (ns.length : Int) = ns.length := by omega
    obtain ⟨d, hd', e1⟩ := atI_int (l := ns.map D.int) (i := n % max 1 (ns.length : Int)) (Int.emod_nonneg _ (by omega)) (by rw [List.length_map, e0]; exact Int.emod_lt_of_pos _ (by omega))
    refine i_ixC e1 ?_
    obtain ⟨c, _, rfl⟩ := List.mem_map.mp hd'
    walk_at "au"
    exact kq _ (Int.emod_nonneg _ (by omega)) (Int.emod_lt_of_pos _ hs)
  · walk_at "au"
    exact kq _ (Int.emod_nonneg _ (by omega)) (Int.emod_lt_of_pos _ hs)
theorem c__law_next (T : Txt K mg w) : Cal P w K mg base 2 "_law_next" ["_law_draw", "_law_size"] [] sp__law_next := by
  refine cal_of T.d__law_next sc__law_next (fun ds μ Q E h => by obtain ⟨_, _, rfl, _⟩ := h; rfl) (fun _ _ _ _ _ _ us hl => match us, hl with | [_, _], _ => rfl) (fun f Z cdv A outer s H _ E hr M hcd =>
      ⟨_, (ss_cons (s_set (i := 2) sc__law_next.nd (d_drw1 (d_var 0)))
      (ss_cons (s_setDrw (d_var 0) (d_op o_add (d_var 2) d_int))
      (ss_cons (s_set (i := 3) sc__law_next.nd (d_callB (c_max2 rfl) rfl T.b_max boot_max (a_cons d_int (a_cons (d_callB c_len rfl T.b_len PySem.boot_len (a_cons (d_drw0 (d_var 0)) a_nil)) a_nil))))
      (ss_cons (s_set (i := 4) sc__law_next.nd d_int)
      (ss_cons (s_if (t_cmp (o_ne hr.units) (d_drw0 (d_var 0)) (d_lst a_nil))
      (ss_one (s_set (i := 4) sc__law_next.nd (d_ix (d_drw0 (d_var 0)) (d_op o_mod (d_var 2) (d_var 3)))))
      ss_nil)
      (ss_one (s_ret (d_op o_mod (d_op o_div (d_callX 0 (c__law_mixed T) (by decide) dfl0 (hr.mono (by decide)) M (a_cons (d_var 4) (a_cons (d_op o_mod (d_op o_div (d_var 2) (d_var 3)) d_int) a_nil))) d_int) (d_var 1)))))))))⟩)
    (fun ds μ Q E h => ?_) (rd := rd__law_next)
  obtain ⟨b0, b1, e, h⟩ := id h
  subst e
  exact read__law_next b0 b1 μ Q E (by assumption)
/-! ### _law_word: 0 _law_draw, 1 _law_some, 2 _law_word_here, 3 _law_k -/
abbrev N__law_word : List Str := ["_law_draw", "_law_some", "_law_word_here", "_law_k"]
theorem sc__law_word : FnScope N__law_word ["_law_draw"] (defScope s__law_word) := ⟨rfl, rfl, rfl, by decide +kernel, rfl, by decide +kernel, by decide +kernel⟩
def sp__law_word : DSp := Sp1 fun a μ Q _ => ∃ ns, a = .drw ns ∧ ∀ z : Str, isName z = true → Q (.str z) μ
instance st_sp__law_word {a : D} {μ : Mem} {Q : QM} {u3 : DX} : Step (sp__law_word [a] μ Q u3) (∃ ns, a = .drw ns ∧ ∀ z : Str, isName z = true → Q (.str z) μ) := ⟨fun h => ⟨_, rfl, h⟩⟩
def rd__law_word (E : DX) : DS := (dSeq (dSet 1 (dLst (dCons (dC (.str "by")) (dCons (dC (.str "in")) (dCons (dC (.str "at")) (dCons (dC (.str "made")) (dCons (dC (.str "paid")) (dCons (dC (.str "day")) (dCons (dC (.str "least")) (dCons (dC (.str "greatest")) (dCons (dC (.str "for")) (dCons (dC (.str "none")) (dCons (dC (.str "call")) (dCons (dC (.str "held")) (dCons (dC (.str "a")) (dCons (dC (.str "zz")) dNil))))))))))))))))
  (dSeq (dIfS (dTest (dOp rdEq (dCallX sp__law_next [] (XDE E) (dCons (dVar 0) (dCons (dC (.int 4)) dNil))) (dC (.int 0)))) (dRet (dOp rdIx (dVar 1) (dCallX sp__law_next [] (XDE E) (dCons (dVar 0) (dCons (dCB rdLen (dCons (dVar 1) dNil)) dNil))))) dNext)
  (dSeq (dSet 2 (dC (.str "")))
  (dSeq (dFor (diRng1 (dCons (dOp rdAdd (dC (.int 1)) (dCallX sp__law_next [] (XDE E) (dCons (dVar 0) (dCons (dC (.int 8)) dNil)))) dNil)) (gdName 3) (dSet 2 (dOp rdAdd (dVar 2) (dOp rdIx (dC (.str "abcdefghijklmnopqrstuvwxyz")) (dCallX sp__law_next [] (XDE E) (dCons (dVar 0) (dCons (dC (.int 26)) dNil)))))))
  (dRet (dVar 2))))))
theorem read__law_word : ∀ (a0 : D) (μ : Mem) (Q : QM) (E : DX), sp__law_word [a0] μ Q E → rd__law_word E ⟨fun _ μ2 => Q .non μ2, Q, fun _ _ => False, fun _ _ => False⟩ [.val a0, .no, .no, .no] μ := by
  rintro _ μ Q E ⟨_, e, ns, rfl, kq⟩
  cases e
  unfold rd__law_word
  walk_at "go"
  refine ⟨_, _, rfl, rfl, by omega, fun r r0 r1 => ?_⟩
  walk_at "go"
  refine ite_d (fun h => ?_) (fun h => ?_)
  · walk_at "go"
    refine ⟨_, _, rfl, rfl, by decide, fun r r0 r1 => ?_⟩
    obtain ⟨d, hd, e1⟩ := atI_int r0 r1
    refine i_ixL e1 ?_
    have hw : ∀ d ∈ [D.str "by", D.str "in", D.str "at", D.str "made", D.str "paid", D.str "day", D.str "least", D.str "greatest", D.str "for", D.str "none", D.str "call", D.str "held", D.str "a", D.str "zz"], (match d with | .str z => isName z | _ => false) = true := List.all_eq_true.mp (by decide +kernel)
    have h2 := hw d hd
    cases d with
    | str z => exact kq z h2
    | _ => cases h2
  · walk_at "go"
    refine ⟨_, _, rfl, rfl, by omega, fun r r0 r1 => ?_⟩
    walk_at "go"
    refine for_rng (fun i δ μ' => μ' = μ ∧ ∃ z : Str, z.length = i ∧ Al (fun c => letter c = true) z ∧ δ = [.val (.drw ns), .no, .val (.str z), .no]) (wn ⟨rfl, "", by decide +kernel, (fun c h => absurd h (by rw [show (Str.ofString "").cps.toList = [] from by decide +kernel]; exact List.not_mem_nil)), rfl⟩ (by simp [Le])) (fun i δ μ3 hi w => ?_) (fun δ μ3 w => ?_)
    · obtain ⟨rfl, z, hz, ha, rfl⟩ := w
      walk_at "go"
      refine ⟨_, _, rfl, rfl, by omega, fun c c0 c1 => ?_⟩
      walk_at "go"
      refine ⟨⟨c0, by rw [abc_len]; omega⟩, by rw [abc_len]; decide, fun n hn => ?_⟩
      walk_at "go"
      refine ⟨by rw [hz, slen_one]; omega, ?_⟩
      walk_at "go"
      refine wn ⟨rfl, z ++ ⟨#[n]⟩, ?_, ha.app (Al.one (letter_at hn)), rfl⟩ (by simp [Le])
      rw [len_cps, cps_app, List.length_append, ← len_cps, hz]
      rfl
    · obtain ⟨rfl, z, hz, ha, rfl⟩ := w
      walk_at "go"
      exact kq z (isName_of (by omega) (by omega) ha)
theorem c__law_word (T : Txt K mg w) : Cal P w K mg base 3 "_law_word" ["_law_draw"] [] sp__law_word := by
  refine cal_of T.d__law_word sc__law_word (fun ds μ Q E h => by obtain ⟨_, rfl, _⟩ := h; rfl) (fun _ _ _ _ _ _ us hl => match us, hl with | [_], _ => rfl) (fun f Z cdv A outer s H _ E hr M hcd =>
      ⟨_, (ss_cons (s_set (i := 1) sc__law_word.nd (d_lst (a_cons d_str (a_cons d_str (a_cons d_str (a_cons d_str (a_cons d_str (a_cons d_str (a_cons d_str (a_cons d_str (a_cons d_str (a_cons d_str (a_cons d_str (a_cons d_str (a_cons d_str (a_cons d_str a_nil))))))))))))))))
      (ss_cons (s_if (t_cmp (o_eq hr.units) (d_callX 0 (c__law_next T) (by decide) dfl0 (hr.mono (by decide)) M (a_cons (d_var 0) (a_cons d_int a_nil))) d_int)
      (ss_one (s_ret (d_ix (d_var 1) (d_callX 0 (c__law_next T) (by decide) dfl0 (hr.mono (by decide)) M (a_cons (d_var 0) (a_cons (d_callB c_len rfl T.b_len PySem.boot_len (a_cons (d_var 1) a_nil)) a_nil))))))
      ss_nil)
      (ss_cons (s_set (i := 2) sc__law_word.nd d_str)
      (ss_cons (s_for M.ow rfl (i_range1 rfl T.b_range (a_cons (d_op o_add d_int (d_callX 0 (c__law_next T) (by decide) dfl0 (hr.mono (by decide)) M (a_cons (d_var 0) (a_cons d_int a_nil)))) a_nil)) (g_name (i := 3) sc__law_word.nd)
      (ss_one (s_set (i := 2) sc__law_word.nd (d_op o_add (d_var 2) (d_ix d_str (d_callX 0 (c__law_next T) (by decide) dfl0 (hr.mono (by decide)) M (a_cons (d_var 0) (a_cons d_int a_nil))))))))
      (ss_one (s_ret (d_var 2)))))))⟩)
    (fun ds μ Q E h => ?_) (rd := rd__law_word)
  obtain ⟨b0, e, h⟩ := id h
  subst e
  exact read__law_word b0 μ Q E (by assumption)
/-! ### _law_words: 0 _law_draw, 1 _law_many, 2 _law_found, 3 _law_k, 4 _law_word_here, 5 _law_sign -/
abbrev N__law_words : List Str := ["_law_draw", "_law_many", "_law_found", "_law_k", "_law_word_here", "_law_sign"]
theorem sc__law_words : FnScope N__law_words ["_law_draw", "_law_many"] (defScope s__law_words) := ⟨rfl, rfl, rfl, by decide +kernel, rfl, by decide +kernel, by decide +kernel⟩
def sp__law_words : DSp := Sp2 fun a b μ Q _ => ∃ (ns : List Int) (n : Nat), a = .drw ns ∧ b = .int n ∧ n ≤ 25 ∧ ∀ zs : List Str, zs.length = n → (∀ z ∈ zs, isName z = true) → zs.Nodup → Q (.lst (zs.map .str)) μ
theorem abc_nodup : abc.cps.toList.Nodup := by decide +kernel
instance st_sp__law_words {a b : D} {μ : Mem} {Q : QM} {u4 : DX} : Step (sp__law_words [a, b] μ Q u4) (∃ (ns : List Int) (n : Nat), a = .drw ns ∧ b = .int n ∧ n ≤ 25 ∧ ∀ zs : List Str, zs.length = n → (∀ z ∈ zs, isName z = true) → zs.Nodup → Q (.lst (zs.map .str)) μ) := ⟨fun h => ⟨_, _, rfl, h⟩⟩
def rd__law_words (E : DX) : DS := (dSeq (dOwn 2 (fLst dNil))
  (dSeq (dFor (diRng1 (dCons (dVar 1) dNil)) (gdName 3) (dSeq (dSet 4 (dCallX sp__law_word [] (XDE E) (dCons (dVar 0) dNil)))
  (dSeq (dIfS (dOT 2 (dTest (dInO false (dVar 4) 2)) (dTest (dOp (rdIn false) (dVar 4) (dVar 2)))) (dSet 4 (dOp rdIx (dIce (fLc (diStr (dC (.str "abcdefghijklmnopqrstuvwxyz"))) (gdName 5) (dOT 2 (dTest (dInO true (dOp rdAdd (dSl (dVar 4) dNoPart (dPart (dC (.int 7)))) (dVar 5)) 2)) (dTest (dOp (rdIn true) (dOp rdAdd (dSl (dVar 4) dNoPart (dPart (dC (.int 7)))) (dVar 5)) (dVar 2)))) (dOp rdAdd (dSl (dVar 4) dNoPart (dPart (dC (.int 7)))) (dVar 5)) [5])) (dC (.int 0)))) dNext)
  (dApp 2 (dVar 4)))))
  (dRet (dOO 2 (dVarF 2) (dVar 2)))))
theorem read__law_words : ∀ (a0 a1 : D) (μ : Mem) (Q : QM) (E : DX), sp__law_words [a0, a1] μ Q E → rd__law_words E ⟨fun _ μ2 => Q .non μ2, Q, fun _ _ => False, fun _ _ => False⟩ [.val a0, .val a1, .no, .no, .no, .no] μ := by
  rintro _ _ μ Q E ⟨_, _, e, ns, n, rfl, rfl, hn, kq⟩
  cases e
  unfold rd__law_words
  walk_at "go"
  refine by_word (fun i δ μ' => μ' = μ ∧ ∃ zs : List Str, zs.length = i ∧ (∀ z ∈ zs, isName z = true) ∧ zs.Nodup ∧ δ = [.val (.drw ns), .val (.int n), .own (.lst (zs.map .str)), .no, .no, .no]) ⟨rfl, [], rfl, (fun _ h => nomatch h), List.nodup_nil, rfl⟩ (fun i d δ μ1 hi hd w => ?_) (fun δ μ1 w => ?_)
  · obtain ⟨rfl, zs, hl, hz, nd, rfl⟩ := w
    rw [rangeD_len] at hi
    have hi : i < n := by omega
    walk_at "go"
    intro z hw
    walk_at "go"
    refine ⟨_, rfl, rfl, flat_strs zs, ?_⟩
    rw [inD_str]
    walk_at "go"
    refine ite_d (fun h => ?_) (fun h => ?_)
    · walk_at "go"
      have cl : ∀ c ∈ abc.cps.toList, letter c = true := fun c hc => decide_eq_true hc
      refine by_lc (fun i acc μ' => μ' = μ1 ∧ acc = (((abc.cps.toList.take i).map fun c => cutS z none (some 7) ++ (⟨#[c]⟩ : Str)).filter fun y => !decide (y ∈ zs)).map .str) ?_ ⟨rfl, rfl⟩ (fun j d acc μ3 hj hd w => ?_) (fun acc μ3 w => ?_)
      · rfl
      · obtain ⟨rfl, rfl⟩ := w
        obtain ⟨c, hc, rfl⟩ := signs_get hd
        walk_at "wp"
        walk_at "go"
        have nl := name_len hw
        have c7 := cut7 z
        have e1 : (⟨#[c]⟩ : Str).length = 1 := rfl
        refine ⟨by omega, ?_⟩
        walk_at "go"
        refine ⟨by omega, ?_⟩
        refine ⟨_, rfl, rfl, flat_strs zs, ?_⟩
        rw [inD_str]
        walk_at "go"
        rw [take_succ_get hc, List.map_append, List.filter_append, List.map_append]
        refine ite_nd (fun h => ?_) (fun h => ?_)
        · walk_at "go"
          refine ⟨by omega, ?_⟩
          walk_at "go"
          refine ⟨by omega, ?_⟩
          walk_at "go"
          refine ⟨sz_lt ?_, rfl, by simp [h]⟩
          rw [List.length_map]
          refine Nat.lt_of_le_of_lt (List.length_filter_le _ _) ?_
          rw [signs_len] at hj
          have : (Str.ofString "abcdefghijklmnopqrstuvwxyz").cps.size = 26 := by decide +kernel
          simp
          omega
        · exact ⟨rfl, by simp [h]⟩
      · obtain ⟨rfl, rfl⟩ := w
        rw [signs_len, List.take_of_length_le (by simp)]
        have nd26 : (abc.cps.toList.map fun c => cutS z none (some 7) ++ (⟨#[c]⟩ : Str)).Nodup := by
          rw [List.nodup_iff_pairwise_ne, List.pairwise_map]
          exact (List.nodup_iff_pairwise_ne.mp abc_nodup).imp fun h e => h (one_inj e)
        have ge := fil_ge _ zs nd26
        rw [List.length_map, show abc.cps.toList.length = 26 from by decide +kernel] at ge
        generalize hL : ((abc.cps.toList.map fun c => cutS z none (some 7) ++ (⟨#[c]⟩ : Str)).filter fun y => !decide (y ∈ zs)) = L at ge
        walk_at "go"
        cases L with
        | nil => simp at ge; omega
        | cons y L =>
          have hy : y ∈ ((abc.cps.toList.map fun c => cutS z none (some 7) ++ (⟨#[c]⟩ : Str)).filter fun y => !decide (y ∈ zs)) := by rw [hL]; exact List.mem_cons_self
          obtain ⟨hy1, hy2⟩ := List.mem_filter.mp hy
          obtain ⟨c, hc, rfl⟩ := List.mem_map.mp hy1
          have hn : cutS z none (some 7) ++ (⟨#[c]⟩ : Str) ∉ zs := by simpa using hy2
          rw [List.map_cons]
          walk_at "go"
          refine apd_2 (sz_lt (by rw [List.length_map]; omega)) ?_
          have c7 := cut7 z
          have l1 : (cutS z none (some 7) ++ (⟨#[c]⟩ : Str)).length = (cutS z none (some 7)).length + 1 := by
            rw [len_cps, cps_app, List.length_append, ← len_cps]
            rfl
          refine wn ⟨rfl, zs ++ [cutS z none (some 7) ++ (⟨#[c]⟩ : Str)], by simp [hl], fun x hx => ?_, ?_, rfl⟩ (by simp [Le])
          · rcases List.mem_append.mp hx with hx | hx
            · exact hz x hx
            · rw [List.mem_singleton.mp hx]
              exact isName_of (by omega) (by omega) (((name_al hw).cut _ _).app (Al.one (cl c hc)))
          · rw [List.nodup_append]
            refine ⟨nd, by simp, fun a ha b hb e => ?_⟩
            rw [List.mem_singleton.mp hb] at e
            exact hn (e ▸ ha)
    · walk_at "go"
      refine apd_2 (sz_lt (by rw [List.length_map]; omega)) ?_
      refine wn ⟨rfl, zs ++ [z], by simp [hl], fun x hx => ?_, ?_, rfl⟩ (by simp [Le])
      · rcases List.mem_append.mp hx with hx | hx
        · exact hz x hx
        · rw [List.mem_singleton.mp hx]; exact hw
      · rw [List.nodup_append]
        refine ⟨nd, by simp, fun a ha b hb e => ?_⟩
        rw [List.mem_singleton.mp hb] at e
        exact h (e ▸ ha)
  · obtain ⟨rfl, zs, hl, hz, nd, rfl⟩ := w
    walk_at "go"
    rw [rangeD_len] at hl
    exact kq zs (by omega) hz nd
theorem c__law_words (T : Txt K mg w) : Cal P w K mg base 4 "_law_words" ["_law_draw", "_law_many"] [] sp__law_words := by
  refine cal_of T.d__law_words sc__law_words (fun ds μ Q E h => by obtain ⟨_, _, rfl, _⟩ := h; rfl) (fun _ _ _ _ _ _ us hl => match us, hl with | [_, _], _ => rfl) (fun f Z cdv A outer s H _ E hr M hcd =>
      ⟨_, (ss_cons (s_own (i := 2) sc__law_words.nd (f_lst a_nil))
      (ss_cons (s_for M.ow rfl (i_range1 rfl T.b_range (a_cons (d_var 1) a_nil)) (g_name (i := 3) sc__law_words.nd)
      (ss_cons (s_set (i := 4) sc__law_words.nd (d_callX 0 (c__law_word T) (by decide) dfl0 (hr.mono (by decide)) M (a_cons (d_var 0) a_nil)))
      (ss_cons (s_if (t_oo 2 (t_inO 2 (d_var 4)) (t_cmp o_in (d_var 4) (d_var 2)))
      (ss_one (s_set (i := 4) sc__law_words.nd (d_ix (d_ice (f_lc (own := [("_law_sign", 5)]) rfl sc__law_words.nd (go_name (by decide)) (i_str d_str) (blkOk_by (N := N__law_words) (sc := defScope s__law_words) (by decide +kernel)) (fun _ _ _ _ _ => (g_name (i := 5) sc__law_words.nd)) (fun _ _ _ _ _ => (ts_one (t_oo 2 (t_notInO 2 (d_op o_add (d_slice (d_var 4) po_n (po_s d_int)) (d_var 5))) (t_cmp o_notIn (d_op o_add (d_slice (d_var 4) po_n (po_s d_int)) (d_var 5)) (d_var 2))))) (fun _ _ _ _ _ => (d_op o_add (d_slice (d_var 4) po_n (po_s d_int)) (d_var 5))))) d_int)))
      ss_nil)
      (ss_one (s_appP 2 (d_var 4))))))
      (ss_one (s_ret (d_oo 2 (d_varF 2) (d_var 2))))))⟩)
    (fun ds μ Q E h => ?_) (rd := rd__law_words)
  obtain ⟨b0, b1, e, h⟩ := id h
  subst e
  exact read__law_words b0 b1 μ Q E (by assumption)
/-! ### _law_calls: 0 _law_draw, 1 _law_towns, 2 _law_days, 3 _law_many, 4 _law_calls_here, 5 _law_k, 6 _law_way, 7 _law_when -/
abbrev N__law_calls : List Str := ["_law_draw", "_law_towns", "_law_days", "_law_many", "_law_calls_here", "_law_k", "_law_way", "_law_when"]
theorem sc__law_calls : FnScope N__law_calls ["_law_draw", "_law_towns", "_law_days", "_law_many"] (defScope s__law_calls) := ⟨rfl, rfl, rfl, by decide +kernel, rfl, by decide +kernel, by decide +kernel⟩
def sp__law_calls : DSp := Sp4 fun a b c d μ Q _ => ∃ (ns : List Int) (tos : List (Option Str)) (ds : List Int) (m : Nat), a = .drw ns ∧ b = .lst (tos.map toD) ∧ 0 < tos.length ∧ tos.length ≤ 100 ∧ (∀ t ∈ tos, toOk t) ∧ c = .lst (ds.map .int) ∧ 0 < ds.length ∧ ds.length ≤ 100 ∧ (∀ x ∈ ds, 0 ≤ x ∧ x ≤ 9999) ∧ d = .int (m : Nat) ∧ m ≤ 100 ∧
  ∀ cs : List (Wh × Option Str), cs.length = m → (∀ c ∈ cs, CdOk c) → Q (.lst (cs.map cdT)) μ
instance st_sp__law_calls {a b c d : D} {μ : Mem} {Q : QM} {u6 : DX} : Step (sp__law_calls [a, b, c, d] μ Q u6) (∃ (ns : List Int) (tos : List (Option Str)) (ds : List Int) (m : Nat), a = .drw ns ∧ b = .lst (tos.map toD) ∧ 0 < tos.length ∧ tos.length ≤ 100 ∧ (∀ t ∈ tos, toOk t) ∧ c = .lst (ds.map .int) ∧ 0 < ds.length ∧ ds.length ≤ 100 ∧ (∀ x ∈ ds, 0 ≤ x ∧ x ≤ 9999) ∧ d = .int (m : Nat) ∧ m ≤ 100 ∧
  ∀ cs : List (Wh × Option Str), cs.length = m → (∀ c ∈ cs, CdOk c) → Q (.lst (cs.map cdT)) μ) := ⟨fun h => ⟨_, _, _, _, rfl, h⟩⟩
def rd__law_calls (E : DX) : DS := (dSeq (dOwn 4 (fLst dNil))
  (dSeq (dFor (diRng1 (dCons (dVar 3) dNil)) (gdName 5) (dSeq (dSet 6 (dCallX sp__law_next [] (XDE E) (dCons (dVar 0) (dCons (dC (.int 4)) dNil))))
  (dCut (dSet 7 (dOp rdIx (dLst (dCons (dC (.str "made")) (dCons (dC (.str "paid")) dNil))) (dOp rdMod (dVar 6) (dC (.int 2)))))
  (dCut (dIfS (dTest (dOp rdGt (dVar 6) (dC (.int 1)))) (dSet 7 (dOp rdIx (dVar 2) (dCallX sp__law_next [] (XDE E) (dCons (dVar 0) (dCons (dCB rdLen (dCons (dVar 2) dNil)) dNil))))) dNext)
  (dApp 4 (dTup (dCons (dVar 7) (dCons (dOp rdIx (dVar 1) (dCallX sp__law_next [] (XDE E) (dCons (dVar 0) (dCons (dCB rdLen (dCons (dVar 1) dNil)) dNil)))) dNil))))))))
  (dRet (dOO 4 (dVarF 4) (dVar 4)))))
theorem read__law_calls : ∀ (a0 a1 a2 a3 : D) (μ : Mem) (Q : QM) (E : DX), sp__law_calls [a0, a1, a2, a3] μ Q E → rd__law_calls E ⟨fun _ μ2 => Q .non μ2, Q, fun _ _ => False, fun _ _ => False⟩ [.val a0, .val a1, .val a2, .val a3, .no, .no, .no, .no] μ := by
  rintro _ _ _ _ μ Q E ⟨_, _, _, _, e, ns, tos, ds, m, rfl, rfl, t0, t1, tok, rfl, d0, d1, dok, rfl, m1, kq⟩
  cases e
  unfold rd__law_calls
  walk_at "go"
  refine for_rng (fun i δ μ' => μ' = μ ∧ ∃ cs : List (Wh × Option Str), cs.length = i ∧ (∀ c ∈ cs, CdOk c) ∧ δ = [.val (.drw ns), .val (.lst (tos.map toD)), .val (.lst (ds.map .int)), .val (.int (m : Nat)), .own (.lst (cs.map cdT)), .no, .no, .no]) ?_ (fun i δ μ' hi w => ?_) (fun δ μ' w => ?_)
  · exact wn ⟨rfl, [], rfl, (fun _ h => nomatch h), rfl⟩ (by simp [Le])
  · obtain ⟨rfl, cs, cl, cok, rfl⟩ := w
    have im : i < 100 := by omega
    walk_at "go"
    refine ⟨_, _, rfl, rfl, by decide, fun w w0 w1 => ?_⟩
    walk_at "go"
    refine cut_by (fun δ' μ2 => μ2 = μ' ∧ ∃ wh : Wh, whOk wh ∧ δ' = [.val (.drw ns), .val (.lst (tos.map toD)), .val (.lst (ds.map .int)), .val (.int (m : Nat)), .own (.lst (cs.map cdT)), .val (.int (0 + (i : Int))), .val (.int w), .val (whD wh)]) ?_ ?_
    · walk_at "go"
      refine ⟨by omega, fun _ => ?_, fun _ => ?_⟩
      · walk_at "go"
        exact wn ⟨rfl, .made, trivial, rfl⟩ (by simp [Le, whD])
      · walk_at "go"
        exact wn ⟨rfl, .paid, trivial, rfl⟩ (by simp [Le, whD])
    rintro _ μ3 ⟨rfl, wh, wok, rfl⟩
    walk_at "go"
    refine cut_by (fun δ' μ2 => μ2 = μ3 ∧ ∃ wh : Wh, whOk wh ∧ δ' = [.val (.drw ns), .val (.lst (tos.map toD)), .val (.lst (ds.map .int)), .val (.int (m : Nat)), .own (.lst (cs.map cdT)), .val (.int (0 + (i : Int))), .val (.int w), .val (whD wh)]) ?_ ?_
    · walk_at "go"
      refine ite_d (fun h => ?_) (fun h => ?_)
      · walk_at "go"
        rw [List.length_map]
        refine ⟨_, _, rfl, rfl, by omega, fun u u0 u1 => ?_⟩
        refine int_mem u0 u1 fun dd hdd => ?_
        walk_at "go"
        exact wn ⟨rfl, .day dd, dok dd hdd, rfl⟩ (by simp [Le, whD])
      · walk_at "go"
        exact wn ⟨rfl, wh, wok, rfl⟩ (by simp [Le])
    rintro _ _ ⟨rfl, wh, wok, rfl⟩
    walk_at "go"
    rw [List.length_map]
    refine ⟨_, _, rfl, rfl, by omega, fun u u0 u1 => ?_⟩
    refine map_mem u0 u1 fun t ht => ?_
    walk_at "go"
    refine apd_4 (sz_lt (by rw [List.length_map]; omega)) ?_
    have f1 : cs.map cdT ++ [D.tup [whD wh, toD t]] = (cs ++ [(wh, t)]).map cdT := by rw [List.map_append]; rfl
    rw [f1]
    refine wn ⟨rfl, cs ++ [(wh, t)], by simp [cl], fun c hc => ?_, rfl⟩ (by simp [Le])
    rcases List.mem_append.mp hc with hc | hc
    · exact cok c hc
    · rw [List.mem_singleton.mp hc]; exact ok_cd.mpr ⟨wok, tok t ht⟩
  obtain ⟨rfl, cs, cl, cok, rfl⟩ := w
  walk_at "go"
  exact kq cs (by omega) cok
theorem c__law_calls (T : Txt K mg w) : Cal P w K mg base 3 "_law_calls" ["_law_draw", "_law_towns", "_law_days", "_law_many"] [] sp__law_calls := by
  refine cal_of T.d__law_calls sc__law_calls (fun ds μ Q E h => by obtain ⟨_, _, _, _, rfl, _⟩ := h; rfl) (fun _ _ _ _ _ _ us hl => match us, hl with | [_, _, _, _], _ => rfl) (fun f Z cdv A outer s H _ E hr M hcd =>
      ⟨_, (ss_cons (s_own (i := 4) sc__law_calls.nd (f_lst a_nil))
      (ss_cons (s_for M.ow rfl (i_range1 rfl T.b_range (a_cons (d_var 3) a_nil)) (g_name (i := 5) sc__law_calls.nd)
      (ss_cons (s_set (i := 6) sc__law_calls.nd (d_callX 0 (c__law_next T) (by decide) dfl0 (hr.mono (by decide)) M (a_cons (d_var 0) (a_cons d_int a_nil))))
      (ss_cut (s_set (i := 7) sc__law_calls.nd (d_ix (d_lst (a_cons d_str (a_cons d_str a_nil))) (d_op o_mod (d_var 6) d_int)))
      (ss_cut (s_if (t_cmp o_gt (d_var 6) d_int)
      (ss_one (s_set (i := 7) sc__law_calls.nd (d_ix (d_var 2) (d_callX 0 (c__law_next T) (by decide) dfl0 (hr.mono (by decide)) M (a_cons (d_var 0) (a_cons (d_callB c_len rfl T.b_len PySem.boot_len (a_cons (d_var 2) a_nil)) a_nil))))))
      ss_nil)
      (ss_one (s_appP 4 (d_tup (a_cons (d_var 7) (a_cons (d_ix (d_var 1) (d_callX 0 (c__law_next T) (by decide) dfl0 (hr.mono (by decide)) M (a_cons (d_var 0) (a_cons (d_callB c_len rfl T.b_len PySem.boot_len (a_cons (d_var 1) a_nil)) a_nil)))) a_nil)))))))))
      (ss_one (s_ret (d_oo 4 (d_varF 4) (d_var 4))))))⟩)
    (fun ds μ Q E h => ?_) (rd := rd__law_calls)
  obtain ⟨b0, b1, b2, b3, e, h⟩ := id h
  subst e
  exact read__law_calls b0 b1 b2 b3 μ Q E (by assumption)
/-! ### _law_day: 0 _law_draw, 1 _law_way -/
abbrev N__law_day : List Str := ["_law_draw", "_law_way"]
theorem sc__law_day : FnScope N__law_day ["_law_draw"] (defScope s__law_day) := ⟨rfl, rfl, rfl, by decide +kernel, rfl, by decide +kernel, by decide +kernel⟩
def sp__law_day : DSp := Sp1 fun a μ Q _ => ∃ ns, a = .drw ns ∧ ∀ v : Int, 0 ≤ v → v ≤ 9999 → Q (.int v) μ
instance st_sp__law_day {a : D} {μ : Mem} {Q : QM} {u3 : DX} : Step (sp__law_day [a] μ Q u3) (∃ ns, a = .drw ns ∧ ∀ v : Int, 0 ≤ v → v ≤ 9999 → Q (.int v) μ) := ⟨fun h => ⟨_, rfl, h⟩⟩
def rd__law_day (E : DX) : DS := (dSeq (dSet 1 (dCallX sp__law_next [] (XDE E) (dCons (dVar 0) (dCons (dC (.int 8)) dNil))))
  (dSeq (dIfS (dTest (dOp rdLt (dVar 1) (dC (.int 2)))) (dRet (dOp rdIx (dLst (dCons (dC (.int 0)) (dCons (dC (.int 9999)) dNil))) (dVar 1))) dNext)
  (dSeq (dIfS (dTest (dOp rdLt (dVar 1) (dC (.int 4)))) (dRet (dCallX sp__law_next [] (XDE E) (dCons (dVar 0) (dCons (dC (.int 12)) dNil)))) dNext)
  (dRet (dCallX sp__law_next [] (XDE E) (dCons (dVar 0) (dCons (dC (.int 10000)) dNil)))))))
theorem read__law_day : ∀ (a0 : D) (μ : Mem) (Q : QM) (E : DX), sp__law_day [a0] μ Q E → rd__law_day E ⟨fun _ μ2 => Q .non μ2, Q, fun _ _ => False, fun _ _ => False⟩ [.val a0, .no] μ := by
  rintro _ μ Q E ⟨_, e, ns, rfl, kq⟩
  cases e
  unfold rd__law_day
  walk_at "go"
  refine ⟨_, _, rfl, rfl, by decide, fun w w0 w1 => ?_⟩
  walk_at "go"
  refine ite_d (fun h => ?_) (fun h => ?_)
  · walk_at "go"
    refine ⟨by omega, fun v hv => ?_⟩
    exact kq v (by omega) (by omega)
  walk_at "go"
  refine ite_d (fun h2 => ?_) (fun h2 => ?_)
  · walk_at "go"
    refine ⟨_, _, rfl, rfl, by decide, fun v v0 v1 => ?_⟩
    exact kq v v0 (by omega)
  · walk_at "go"
    refine ⟨_, _, rfl, rfl, by decide, fun v v0 v1 => ?_⟩
    exact kq v v0 (by omega)
theorem c__law_day (T : Txt K mg w) : Cal P w K mg base 3 "_law_day" ["_law_draw"] [] sp__law_day := by
  refine cal_of T.d__law_day sc__law_day (fun ds μ Q E h => by obtain ⟨_, rfl, _⟩ := h; rfl) (fun _ _ _ _ _ _ us hl => match us, hl with | [_], _ => rfl) (fun f Z cdv A outer s H _ E hr M hcd =>
      ⟨_, (ss_cons (s_set (i := 1) sc__law_day.nd (d_callX 0 (c__law_next T) (by decide) dfl0 (hr.mono (by decide)) M (a_cons (d_var 0) (a_cons d_int a_nil))))
      (ss_cons (s_if (t_cmp o_lt (d_var 1) d_int)
      (ss_one (s_ret (d_ix (d_lst (a_cons d_int (a_cons d_int a_nil))) (d_var 1))))
      ss_nil)
      (ss_cons (s_if (t_cmp o_lt (d_var 1) d_int)
      (ss_one (s_ret (d_callX 0 (c__law_next T) (by decide) dfl0 (hr.mono (by decide)) M (a_cons (d_var 0) (a_cons d_int a_nil)))))
      ss_nil)
      (ss_one (s_ret (d_callX 0 (c__law_next T) (by decide) dfl0 (hr.mono (by decide)) M (a_cons (d_var 0) (a_cons d_int a_nil))))))))⟩)
    (fun ds μ Q E h => ?_) (rd := rd__law_day)
  obtain ⟨b0, e, h⟩ := id h
  subst e
  exact read__law_day b0 μ Q E (by assumption)
/-! ### _law_level: 0 _law_draw, 1 _law_way -/
abbrev N__law_level : List Str := ["_law_draw", "_law_way"]
theorem sc__law_level : FnScope N__law_level ["_law_draw"] (defScope s__law_level) := ⟨rfl, rfl, rfl, by decide +kernel, rfl, by decide +kernel, by decide +kernel⟩
def sp__law_level : DSp := Sp1 fun a μ Q _ => ∃ ns, a = .drw ns ∧ ∀ v : Int, 0 ≤ v → v ≤ 1000000 → Q (.int v) μ
instance st_sp__law_level {a : D} {μ : Mem} {Q : QM} {u3 : DX} : Step (sp__law_level [a] μ Q u3) (∃ ns, a = .drw ns ∧ ∀ v : Int, 0 ≤ v → v ≤ 1000000 → Q (.int v) μ) := ⟨fun h => ⟨_, rfl, h⟩⟩
def rd__law_level (E : DX) : DS := (dSeq (dSet 1 (dCallX sp__law_next [] (XDE E) (dCons (dVar 0) (dCons (dC (.int 12)) dNil))))
  (dSeq (dIfS (dTest (dOp rdLt (dVar 1) (dC (.int 4)))) (dRet (dOp rdIx (dLst (dCons (dC (.int 0)) (dCons (dC (.int 1)) (dCons (dC (.int 999999)) (dCons (dC (.int 1000000)) dNil))))) (dVar 1))) dNext)
  (dRet (dCallX sp__law_next [] (XDE E) (dCons (dVar 0) (dCons (dC (.int 1000001)) dNil))))))
theorem read__law_level : ∀ (a0 : D) (μ : Mem) (Q : QM) (E : DX), sp__law_level [a0] μ Q E → rd__law_level E ⟨fun _ μ2 => Q .non μ2, Q, fun _ _ => False, fun _ _ => False⟩ [.val a0, .no] μ := by
  rintro _ μ Q E ⟨_, e, ns, rfl, kq⟩
  cases e
  unfold rd__law_level
  walk_at "go"
  refine ⟨_, _, rfl, rfl, by decide, fun w w0 w1 => ?_⟩
  walk_at "go"
  refine ite_d (fun h => ?_) (fun h => ?_)
  · walk_at "go"
    refine ⟨by omega, fun v hv => ?_⟩
    exact kq v (by omega) (by omega)
  · walk_at "go"
    refine ⟨_, _, rfl, rfl, by decide, fun v v0 v1 => ?_⟩
    exact kq v v0 (by omega)
theorem c__law_level (T : Txt K mg w) : Cal P w K mg base 3 "_law_level" ["_law_draw"] [] sp__law_level := by
  refine cal_of T.d__law_level sc__law_level (fun ds μ Q E h => by obtain ⟨_, rfl, _⟩ := h; rfl) (fun _ _ _ _ _ _ us hl => match us, hl with | [_], _ => rfl) (fun f Z cdv A outer s H _ E hr M hcd =>
      ⟨_, (ss_cons (s_set (i := 1) sc__law_level.nd (d_callX 0 (c__law_next T) (by decide) dfl0 (hr.mono (by decide)) M (a_cons (d_var 0) (a_cons d_int a_nil))))
      (ss_cons (s_if (t_cmp o_lt (d_var 1) d_int)
      (ss_one (s_ret (d_ix (d_lst (a_cons d_int (a_cons d_int (a_cons d_int (a_cons d_int a_nil))))) (d_var 1))))
      ss_nil)
      (ss_one (s_ret (d_callX 0 (c__law_next T) (by decide) dfl0 (hr.mono (by decide)) M (a_cons (d_var 0) (a_cons d_int a_nil)))))))⟩)
    (fun ds μ Q E h => ?_) (rd := rd__law_level)
  obtain ⟨b0, e, h⟩ := id h
  subst e
  exact read__law_level b0 μ Q E (by assumption)
/-! ### _law_told: 0 _law_draw, 1 _law_calls_here, 2 _law_deep, 3 _law_room, 4 _law_way, 5 _law_many, 6 _law_word_here, 7 _law_parts, 8 _law_k -/
abbrev N__law_told : List Str := ["_law_draw", "_law_calls_here", "_law_deep", "_law_room", "_law_way", "_law_many", "_law_word_here", "_law_parts", "_law_k"]
theorem sc__law_told : FnScope N__law_told ["_law_draw", "_law_calls_here", "_law_deep", "_law_room"] (defScope s__law_told) := ⟨rfl, rfl, rfl, by decide +kernel, rfl, by decide +kernel, by decide +kernel⟩
def sp__law_told (n : Nat) : DSp := Sp4 fun a b c d μ Q _ => ∃ (ns : List Int) (cs : List (Wh × Option Str)) (m k : Nat), a = .drw ns ∧ b = .lst (cs.map cdT) ∧ 0 < cs.length ∧ cs.length ≤ 100 ∧ (∀ c ∈ cs, CdOk c) ∧ c = .int (m : Nat) ∧ 0 < m ∧ m ≤ 8 ∧ m ≤ n ∧ d = .int (k : Nat) ∧ 0 < k ∧ k ≤ 60 ∧ ∀ t : Tm, dp t ≤ m → rul t ≤ k → okT t → (∀ c ∈ cls t, c ∈ cs) → Q (toldD t) μ
theorem vac__law_told : ∀ ds μ Q E, ¬ sp__law_told 0 ds μ Q E := fun _ _ _ _ ⟨_, _, _, _, _, _, _, _, _, _, _, _, _, _, _, h, _, h2, _⟩ => by omega
instance st_sp__law_told {n : Nat} {a b c d : D} {μ : Mem} {Q : QM} {u6 : DX} : Step (sp__law_told n [a, b, c, d] μ Q u6) (∃ (ns : List Int) (cs : List (Wh × Option Str)) (m k : Nat), a = .drw ns ∧ b = .lst (cs.map cdT) ∧ 0 < cs.length ∧ cs.length ≤ 100 ∧ (∀ c ∈ cs, CdOk c) ∧ c = .int (m : Nat) ∧ 0 < m ∧ m ≤ 8 ∧ m ≤ n ∧ d = .int (k : Nat) ∧ 0 < k ∧ k ≤ 60 ∧ ∀ t : Tm, dp t ≤ m → rul t ≤ k → okT t → (∀ c ∈ cls t, c ∈ cs) → Q (toldD t) μ) := ⟨fun h => ⟨_, _, _, _, rfl, h⟩⟩
def rd__law_told (n : Nat) (E : DX) : DS := (dSeq (dSet 4 (dCallX sp__law_next [] (XDE E) (dCons (dVar 0) (dCons (dC (.int 8)) dNil))))
  (dSeq (dIfS (dOr (dTest (dOp rdEq (dVar 2) (dC (.int 1)))) (dOr (dTest (dOp rdLt (dVar 3) (dC (.int 3)))) (dTest (dOp rdLt (dVar 4) (dC (.int 2)))))) (dSeq (dIfS (dTest (dOp rdEq (dCallX sp__law_next [] (XDE E) (dCons (dVar 0) (dCons (dC (.int 3)) dNil))) (dC (.int 0)))) (dRet (dTup (dCons (dC (.str "level")) (dCons (dCallX sp__law_level [] (XDE E) (dCons (dVar 0) dNil)) dNil)))) dNext)
  (dRet (dOp rdAdd (dTup (dCons (dC (.str "called")) dNil)) (dOp rdIx (dVar 1) (dCallX sp__law_next [] (XDE E) (dCons (dVar 0) (dCons (dCB rdLen (dCons (dVar 1) dNil)) dNil))))))) dNext)
  (dSeq (dSet 5 (dCB rdMin2 (dCons (dOp rdSub (dVar 3) (dC (.int 1))) (dCons (dOp rdAdd (dC (.int 2)) (dCallX sp__law_next [] (XDE E) (dCons (dVar 0) (dCons (dOp rdIx (dLst (dCons (dC (.int 2)) (dCons (dC (.int 7)) dNil))) (dCB rdInt (dCons (dOp rdEq (dVar 4) (dC (.int 7))) dNil))) dNil)))) dNil))))
  (dSeq (dSet 6 (dOp rdIx (dLst (dCons (dC (.str "least")) (dCons (dC (.str "greatest")) dNil))) (dCallX sp__law_next [] (XDE E) (dCons (dVar 0) (dCons (dC (.int 2)) dNil)))))
  (dSeq (dSet 7 (dIce (fLc (diRng1 (dCons (dVar 5) dNil)) (gdName 8) dYes (dCallX (sp__law_told n) [] XD0 (dCons (dVar 0) (dCons (dVar 1) (dCons (dOp rdSub (dVar 2) (dC (.int 1))) (dCons (dOp rdDiv (dOp rdSub (dVar 3) (dC (.int 1))) (dVar 5)) dNil))))) [8])))
  (dRet (dCB rdTup (dCons (dOp rdAdd (dLst (dCons (dVar 6) dNil)) (dVar 7)) dNil))))))))
theorem read__law_told : ∀ (n : Nat) (a0 a1 a2 a3 : D) (μ : Mem) (Q : QM) (E : DX), sp__law_told (n + 1) [a0, a1, a2, a3] μ Q E → rd__law_told n E ⟨fun _ μ2 => Q .non μ2, Q, fun _ _ => False, fun _ _ => False⟩ [.val a0, .val a1, .val a2, .val a3, .no, .no, .no, .no, .no] μ := by
  rintro n _ _ _ _ μ Q E ⟨_, _, _, _, e, ns, cs, m, k, rfl, rfl, c0, c1, cok, rfl, m0, m8, mn, rfl, k0, k60, kq⟩
  cases e
  unfold rd__law_told
  have lv : ∀ v : Int, 0 ≤ v → v ≤ 1000000 → Q (.tup [.str "level", .int v]) μ := fun v v0 v1 => by
    have := kq (.lv v) (by rw [dp_lv]; omega) (by rw [rul_lv]; omega) (ok_lv.mpr ⟨v0, v1⟩) (by rw [cls_lv]; exact fun _ h => nomatch h)
    rwa [to_lv] at this
  have cd : ∀ c ∈ cs, Q (.tup [.str "called", whD c.1, toD c.2]) μ := fun c hc => by
    have := kq (.cd c.1 c.2) (by rw [dp_cd]; omega) (by rw [rul_cd]; omega) (cok c hc) (by rw [cls_cd]; intro x hx; rw [List.mem_singleton.mp hx]; exact hc)
    rwa [to_cd] at this
  walk_at "go"
  refine ⟨_, _, rfl, rfl, by decide, fun w w0 w1 => ?_⟩
  walk_at "go"
  refine ite_d (fun h => ?_) (fun h => ?_)
  rotate_left
  walk_at "go"
  refine ite_d (fun h1 => ?_) (fun h1 => ?_)
  rotate_left
  walk_at "go"
  refine ite_d (fun h2 => ?_) (fun h2 => ?_)
  rotate_left
  rotate_left
  iterate 3
    · walk_at "go"
      refine ⟨_, _, rfl, rfl, by decide, fun u u0 u1 => ?_⟩
      walk_at "go"
      refine ite_d (fun h => ?_) (fun h => ?_)
      · walk_at "go"
        intro v v0 v1
        walk_at "go"
        exact lv v v0 v1
      · walk_at "go"
        rw [List.length_map]
        refine ⟨_, _, rfl, rfl, by omega, fun x x0 x1 => ?_⟩
        refine map_mem x0 x1 fun c hc => ?_
        walk_at "go"
        first
          | done
          | exact cd c hc
          | (refine i_addT (i := [_]) (j := [_, _]) (by show _ ≤ 16777216; simp) ?_; exact cd c hc)
  walk_at "go"
  refine ⟨by split <;> omega, fun v hv => ?_⟩
  have hv : v = 2 ∨ v = 7 := by rcases hv with h | h <;> omega
  walk_at "go"
  refine ⟨_, _, rfl, rfl, by omega, fun u u0 u1 => ?_⟩
  have M2 : 2 ≤ min ((k : Int) - 1) (2 + u) ∧ min ((k : Int) - 1) (2 + u) ≤ 8 ∧ min ((k : Int) - 1) (2 + u) ≤ (k : Int) - 1 := by omega
  obtain ⟨M, eM⟩ := Int.eq_ofNat_of_zero_le (show 0 ≤ min ((k : Int) - 1) (2 + u) by omega)
  walk_at "go"
  rw [eM] at M2 ⊢
  have M3 : 2 ≤ M ∧ M ≤ 8 ∧ M ≤ k - 1 := by omega
  refine ⟨_, _, rfl, rfl, by decide, fun wd wd0 wd1 => ?_⟩
  walk_at "go"
  refine ⟨by omega, fun _ => ?_, fun _ => ?_⟩
  all_goals
    walk_at "go"
    refine lc_rng toldD (fun t => dp t ≤ m - 1 ∧ rul t ≤ (k - 1) / M ∧ okT t ∧ ∀ c ∈ cls t, c ∈ cs) rfl (by omega) (fun i _ P hP => ?_) (fun bs hbl hb => ?_)
    · walk_at "wp"
      walk_at "go"
      refine ⟨ns, cs, m - 1, (k - 1) / M, rfl, rfl, c0, c1, cok, by congr 1; omega, by omega, by omega, by omega, ?_, Nat.div_pos M3.2.2 (by omega), Nat.le_trans (Nat.div_le_self _ _) (by omega), fun t h1 h2 h3 h4 => ⟨rfl, hP t ⟨h1, h2, h3, h4⟩⟩⟩
      rw [show ((k : Int) - 1) = ((k - 1 : Nat) : Int) by omega]
      rfl
    have hbl : bs.length = M := by simpa using hbl
    have hr : ruls bs ≤ bs.length * ((k - 1) / M) := ruls_le fun t ht => (hb t ht).2.1
    have hr3 : bs.length * ((k - 1) / M) ≤ k - 1 := by rw [hbl]; exact Nat.mul_div_le (k - 1) M
    have hdp : dps bs ≤ m - 1 := dps_le fun t ht => (hb t ht).1
    have hok : ∀ t ∈ bs, okT t := fun t ht => (hb t ht).2.2.1
    have hcl : ∀ c ∈ (bs.map cls).flatten, c ∈ cs := fun c hc => by
      obtain ⟨q, hq, hc⟩ := List.mem_flatten.mp hc
      obtain ⟨t, ht, rfl⟩ := List.mem_map.mp hq
      exact (hb t ht).2.2.2 c hc
    walk_at "go"
    refine i_addL (sz_of (by simp; omega)) ?_
    first
      | rw [show [D.str "least"] ++ bs.map toldD = .str "least" :: bs.map toldD from rfl]
      | rw [show [D.str "greatest"] ++ bs.map toldD = .str "greatest" :: bs.map toldD from rfl]
    walk_at "go"
    first
      | (have := kq (.ls bs) (by rw [dp_ls]; omega) (by rw [rul_ls]; omega) (ok_ls.mpr ⟨⟨by omega, by omega, by omega, by omega⟩, hok⟩) (by rw [cls_ls]; exact hcl)
         rwa [to_ls] at this)
      | (have := kq (.gr bs) (by rw [dp_gr]; omega) (by rw [rul_gr]; omega) (ok_gr.mpr ⟨⟨by omega, by omega, by omega, by omega⟩, hok⟩) (by rw [cls_gr]; exact hcl)
         rwa [to_gr] at this)
theorem cs__law_told (T : Txt K mg w) : ∀ n : Nat, (Cal P w K mg base (3 + n) "_law_told" ["_law_draw", "_law_calls_here", "_law_deep", "_law_room"] [] (sp__law_told n)) := by
  intro n
  induction n with
  | zero => exact cal_vac T.d__law_told (fun _ _ _ _ _ _ us hl => match us, hl with | [_, _, _, _], _ => rfl) vac__law_told
  | succ n IH =>
    have ih__law_told := IH
    refine cal_of (k := 3 + n) T.d__law_told sc__law_told (fun ds μ Q E h => by obtain ⟨_, _, _, _, rfl, _⟩ := h; rfl) (fun _ _ _ _ _ _ us hl => match us, hl with | [_, _, _, _], _ => rfl) (fun f Z cdv A outer s H _ E hr M hcd =>
        ⟨_, (ss_cons (s_set (i := 4) sc__law_told.nd (d_callX 0 (c__law_next T) (by decide) dfl0 (hr.mono (by omega)) M (a_cons (d_var 0) (a_cons d_int a_nil))))
      (ss_cons (s_if (t_w (w_or (t_cmp (o_eq hr.units) (d_var 2) d_int) (w_or (t_cmp o_lt (d_var 3) d_int) (w_or1 (t_cmp o_lt (d_var 4) d_int)))))
      (ss_cons (s_if (t_cmp (o_eq hr.units) (d_callX 0 (c__law_next T) (by decide) dfl0 (hr.mono (by omega)) M (a_cons (d_var 0) (a_cons d_int a_nil))) d_int)
      (ss_one (s_ret (d_tup (a_cons d_str (a_cons (d_callX 0 (c__law_level T) (by decide) dfl0 (hr.mono (by omega)) M (a_cons (d_var 0) a_nil)) a_nil)))))
      ss_nil)
      (ss_one (s_ret (d_op o_add (d_tup (a_cons d_str a_nil)) (d_ix (d_var 1) (d_callX 0 (c__law_next T) (by decide) dfl0 (hr.mono (by omega)) M (a_cons (d_var 0) (a_cons (d_callB c_len rfl T.b_len PySem.boot_len (a_cons (d_var 1) a_nil)) a_nil))))))))
      ss_nil)
      (ss_cons (s_set (i := 5) sc__law_told.nd (d_callB (c_min2 rfl) rfl T.b_min (by decide +kernel) (a_cons (d_op o_sub (d_var 3) d_int) (a_cons (d_op o_add d_int (d_callX 0 (c__law_next T) (by decide) dfl0 (hr.mono (by omega)) M (a_cons (d_var 0) (a_cons (d_ix (d_lst (a_cons d_int (a_cons d_int a_nil))) (d_callTy c_int rfl T.b_int (by decide +kernel) (a_cons (d_cmp (o_eq hr.units) (d_var 4) d_int) a_nil))) a_nil)))) a_nil))))
      (ss_cons (s_set (i := 6) sc__law_told.nd (d_ix (d_lst (a_cons d_str (a_cons d_str a_nil))) (d_callX 0 (c__law_next T) (by decide) dfl0 (hr.mono (by omega)) M (a_cons (d_var 0) (a_cons d_int a_nil)))))
      (ss_cons (s_lc (i := 7) (own := [("_law_k", 8)]) rfl sc__law_told.nd (go_name (by decide)) rfl rfl (sw_true rfl rfl rfl (by decide +kernel)) (i_range1 rfl T.b_range (a_cons (d_var 5) a_nil)) (blkOk_by (N := N__law_told) (sc := defScope s__law_told) (by decide +kernel)) (fun _ _ _ _ _ => (g_name (i := 8) sc__law_told.nd)) (fun _ _ _ _ _ => ts_nil) (fun _ _ _ _ _ => (d_callX 0 ih__law_told (by decide) dfl0 (hr.mono (by omega)) (md_blk (K := K) (Z := Z) M.gd) (a_cons (d_var 0) (a_cons (d_var 1) (a_cons (d_op o_sub (d_var 2) d_int) (a_cons (d_op o_div (d_op o_sub (d_var 3) d_int) (d_var 5)) a_nil)))))))
      (ss_one (s_ret (d_callTy c_tuple rfl T.b_tuple (by decide +kernel) (a_cons (d_op o_add (d_lst (a_cons (d_var 6) a_nil)) (d_var 7)) a_nil)))))))))⟩)
      (fun ds μ Q E h => ?_) (rd := rd__law_told n)
    obtain ⟨b0, b1, b2, b3, e, h⟩ := id h
    subst e
    exact read__law_told n b0 b1 b2 b3 μ Q E (by assumption)
theorem c__law_told (T : Txt K mg w) : Cal P w K mg base 12 "_law_told" ["_law_draw", "_law_calls_here", "_law_deep", "_law_room"] [] (sp__law_told 9) := (cs__law_told T 9)
/-! ### is_number: 0 thing, 1 low, 2 high -/
abbrev N_is_number : List Str := ["thing", "low", "high"]
theorem sc_is_number : FnScope N_is_number ["thing", "low", "high"] (defScope s_is_number) := ⟨rfl, rfl, rfl, by decide +kernel, rfl, by decide +kernel, by decide +kernel⟩
def sp_is_number : DSp := Sp3 fun a b c μ Q _ => ∃ lo hi k, b = .int lo ∧ c = .int hi ∧ numOk lo hi a = some k ∧ Q (.bl k) μ
instance st_sp_is_number {a b c : D} {μ : Mem} {Q : QM} {u5 : DX} : Step (sp_is_number [a, b, c] μ Q u5) (∃ lo hi k, b = .int lo ∧ c = .int hi ∧ numOk lo hi a = some k ∧ Q (.bl k) μ) := ⟨fun h => ⟨_, _, _, rfl, h⟩⟩
def rd_is_number (E : DX) : DS := (dSeq (dIfS (dOr (dTest (dCB rdIsi (dCons (dVar 0) (dCons (dC (.ty "bool")) dNil)))) (dNot (dTest (dCB rdIsi (dCons (dVar 0) (dCons (dC (.ty "int")) dNil)))))) (dRet (dC (.bl false))) dNext)
  (dRet (dChain rdLe rdLe (dVar 1) (dVar 0) (dVar 2))))
theorem read_is_number : ∀ (a0 a1 a2 : D) (μ : Mem) (Q : QM) (E : DX), sp_is_number [a0, a1, a2] μ Q E → rd_is_number E ⟨fun _ μ2 => Q .non μ2, Q, fun _ _ => False, fun _ _ => False⟩ [.val a0, .val a1, .val a2] μ := by
  rintro _ _ _ μ Q E ⟨_, _, _, e, lo, hi, k, rfl, rfl, hk, kq⟩
  cases e
  unfold rd_is_number
  rename_i a
  cases a with
  | int i =>
    cases (show some _ = some _ from hk)
    walk_at "go"
    refine ite_d (fun h => ?_) (fun h => ?_)
    · walk_at "go"
      rw [decide_eq_decide.mpr (show lo ≤ i ∧ i ≤ hi ↔ i ≤ hi by omega)] at kq
      exact kq
    · walk_at "go"
      rw [decide_eq_false (by omega)] at kq
      exact kq
  | bl b =>
    cases (show some _ = some _ from hk)
    walk_at "go"
    exact kq
  | _ => cases hk
theorem c_is_number (T : Txt K mg w) : Cal P w K mg base 1 "is_number" ["thing", "low", "high"] [] sp_is_number := by
  refine cal_of T.d_is_number sc_is_number (fun ds μ Q E h => by obtain ⟨_, _, _, rfl, _⟩ := h; rfl) (fun _ _ _ _ _ _ us hl => match us, hl with | [_, _, _], _ => rfl) (fun f Z cdv A outer s H _ E hr M hcd =>
      ⟨_, (ss_cons (s_if (t_w (w_or (t_valP (d_callB c_isi rfl T.b_isinstance (by decide +kernel) (a_cons (d_var 0) (a_cons (d_bltn rfl T.b_bool (by decide +kernel)) a_nil)))) (w_or1 (t_not (t_valP (d_callB c_isi rfl T.b_isinstance (by decide +kernel) (a_cons (d_var 0) (a_cons (d_bltn rfl T.b_int (by decide +kernel)) a_nil))))))))
      (ss_one (s_ret d_bl))
      ss_nil)
      (ss_one (s_ret (d_chain o_le o_le (d_var 1) (d_var 0) (d_var 2)))))⟩)
    (fun ds μ Q E h => ?_) (rd := rd_is_number)
  obtain ⟨b0, b1, b2, e, h⟩ := id h
  subst e
  exact read_is_number b0 b1 b2 μ Q E (by assumption)
/-! ### ask_worth: 0 worth -/
abbrev N_ask_worth : List Str := ["worth"]
theorem sc_ask_worth : FnScope N_ask_worth ["worth"] (defScope s_ask_worth) := ⟨rfl, rfl, rfl, by decide +kernel, rfl, by decide +kernel, by decide +kernel⟩
def sp_ask_worth : DSp := Sp1 fun a μ Q E => ∃ k, numOk 0 1000000 a = some k ∧ (k = true → Q .non μ) ∧ (k = false → E "NoWorth" none μ)
instance st_sp_ask_worth {a : D} {μ : Mem} {Q : QM} {E : DX} : Step (sp_ask_worth [a] μ Q E) (∃ k, numOk 0 1000000 a = some k ∧ (k = true → Q .non μ) ∧ (k = false → E "NoWorth" none μ)) := ⟨fun h => ⟨_, rfl, h⟩⟩
def rd_ask_worth (E : DX) : DS := (dIfS (dNot (dTest (dCallX sp_is_number [] (XDE E) (dCons (dVar 0) (dCons (dC (.int 0)) (dCons (dC (.int 1000000)) dNil)))))) (dRaise (XDE E) "NoWorth") dNext)
theorem read_ask_worth : ∀ (a0 : D) (μ : Mem) (Q : QM) (E : DX), sp_ask_worth [a0] μ Q E → rd_ask_worth E ⟨fun _ μ2 => Q .non μ2, Q, fun _ _ => False, fun _ _ => False⟩ [.val a0] μ := by
  rintro _ μ Q E ⟨_, e, k, hk, k1, k2⟩
  cases e
  unfold rd_ask_worth
  walk_at "go"
  refine ⟨0, 1000000, k, rfl, rfl, hk, ?_⟩
  walk_at "au"
  · exact k2 (by assumption)
  · exact k1 (by assumption)
theorem c_ask_worth (T : Txt K mg w) : Cal P w K mg base 2 "ask_worth" ["worth"] [] sp_ask_worth := by
  refine cal_of T.d_ask_worth sc_ask_worth (fun ds μ Q E h => by obtain ⟨_, rfl, _⟩ := h; rfl) (fun _ _ _ _ _ _ us hl => match us, hl with | [_], _ => rfl) (fun f Z cdv A outer s H _ E hr M hcd =>
      ⟨_, (ss_one (s_if (t_not (t_valP (d_callX 0 (c_is_number T) (by decide) dfl0 (hr.mono (by decide)) M (a_cons (d_var 0) (a_cons d_int (a_cons (d_globI rfl T.g_TOP.choose_spec ⟨_, rfl⟩) a_nil))))))
      (ss_one (s_raise M T.ec_NoWorth))
      ss_nil))⟩)
    (fun ds μ Q E h => ?_) (rd := rd_ask_worth)
  obtain ⟨b0, e, h⟩ := id h
  subst e
  exact read_ask_worth b0 μ Q E (by assumption)
/-! ### Level.__init__: 0 self, 1 level -/
abbrev N_Level___init__ : List Str := ["self", "level"]
theorem sc_Level___init__ : FnScope N_Level___init__ ["self", "level"] (defScope s_Level___init__) := ⟨rfl, rfl, rfl, by decide +kernel, rfl, by decide +kernel, by decide +kernel⟩
def sp_Level___init__ : DSp := Sp2 fun a b μ Q E => ∃ p k, a = .ref p ∧ μ p = some (.obj "Level" []) ∧ numOk 0 1000000 b = some k ∧ (k = true → Q .non (updM μ p (.obj "Level" [("level", b)]))) ∧ (k = false → E "NoWorth" none μ)
instance st_sp_Level___init__ {a b : D} {μ : Mem} {Q : QM} {E : DX} : Step (sp_Level___init__ [a, b] μ Q E) (∃ p k, a = .ref p ∧ μ p = some (.obj "Level" []) ∧ numOk 0 1000000 b = some k ∧ (k = true → Q .non (updM μ p (.obj "Level" [("level", b)]))) ∧ (k = false → E "NoWorth" none μ)) := ⟨fun h => ⟨_, _, rfl, h⟩⟩
def rd_Level___init__ (E : DX) : DS := (dSeq (dDrop (dCallX sp_ask_worth [] (XDE E) (dCons (dVar 1) dNil)))
  (dSetFld "Level" "level" (dVar 0) (dVar 1)))
theorem read_Level___init__ : ∀ (a0 a1 : D) (μ : Mem) (Q : QM) (E : DX), sp_Level___init__ [a0, a1] μ Q E → rd_Level___init__ E ⟨fun _ μ2 => Q .non μ2, Q, fun _ _ => False, fun _ _ => False⟩ [.val a0, .val a1] μ := by
  rintro _ b μ Q E ⟨_, _, e, p, k, rfl, hp, hk, k1, k2⟩
  cases e
  unfold rd_Level___init__
  walk_at "go"
  refine ⟨k, hk, fun h => ?_, fun h => k2 h⟩
  walk_at "go"
  refine tof_ref (fs := []) hp pt_Level_level (by decide) ?_
  exact k1 h
theorem c_Level___init__ (T : Txt K mg w) : CalI P w K mg base 3 "Level" ["self", "level"] [] sp_Level___init__ := by
  refine calI_of T.d_Level___init__ sc_Level___init__ (fun ds μ Q E h => by obtain ⟨_, _, rfl, _⟩ := h; rfl) (fun _ _ _ _ _ _ us hl => match us, hl with | [_, _], _ => rfl) (fun f Z cdv A outer s H _ E hr M hcd =>
      ⟨_, (ss_cons (s_expr (d_callX 0 (c_ask_worth T) (by decide) dfl0 (hr.mono (by decide)) M (a_cons (d_var 1) a_nil)))
      (ss_one (s_setFldP T.cl_Level T.na_Level_level (d_var 0) (d_var 1))))⟩)
    (fun ds μ Q E h => ?_) (rd := rd_Level___init__)
  obtain ⟨b0, b1, e, h⟩ := id h
  subst e
  exact read_Level___init__ b0 b1 μ Q E (by assumption)
/-! ### is_name: 0 text, 1 sign -/
abbrev N_is_name : List Str := ["text", "sign"]
theorem sc_is_name : FnScope N_is_name ["text"] (defScope s_is_name) := ⟨rfl, rfl, rfl, by decide +kernel, rfl, by decide +kernel, by decide +kernel⟩
def sp_is_name : DSp := Sp1 fun a μ Q _ => ∃ z, a = .str z ∧ z.length ≤ 1000 ∧ Q (.bl (isName z)) μ
instance st_sp_is_name {a : D} {μ : Mem} {Q : QM} {u3 : DX} : Step (sp_is_name [a] μ Q u3) (∃ z, a = .str z ∧ z.length ≤ 1000 ∧ Q (.bl (isName z)) μ) := ⟨fun h => ⟨_, rfl, h⟩⟩
def rd_is_name (E : DX) : DS := (dSeq (dIfS (dNot (dTest (dChain rdLe rdLe (dC (.int 1)) (dCB rdLen (dCons (dVar 0) dNil)) (dC (.int 8))))) (dRet (dC (.bl false))) dNext)
  (dRet (dCB rdAll (dCons (dIce (fLc (diStr (dVar 0)) (gdName 1) dYes (dOp rdInS (dVar 1) (dC (.str "abcdefghijklmnopqrstuvwxyz"))) [1])) dNil))))
theorem read_is_name : ∀ (a0 : D) (μ : Mem) (Q : QM) (E : DX), sp_is_name [a0] μ Q E → rd_is_name E ⟨fun _ μ2 => Q .non μ2, Q, fun _ _ => False, fun _ _ => False⟩ [.val a0, .no] μ := by
  rintro _ μ Q E ⟨_, e, z, rfl, hz, kq⟩
  cases e
  unfold rd_is_name
  walk_at "go"
  refine ⟨by omega, ?_⟩
  walk_at "go"
  refine ite_d (fun h1 => ?_) (fun h1 => ?_)
  · walk_at "go"
    refine ite_nd (fun h2 => ?_) (fun h2 => ?_)
    · walk_at "go"
      have e : isName z = false := by
        unfold isName
        rw [decide_eq_false (by omega)]; rfl
      rw [e] at kq
      exact kq
    · walk_at "go"
      refine by_lc (fun i acc μ' => μ' = μ ∧ acc = ((z.cps.toList.take i).map letter).map .bl) ?_ ⟨rfl, rfl⟩ (fun i d acc μ1 hi hd w => ?_) (fun acc μ1 w => ?_)
      · rfl
      · obtain ⟨rfl, rfl⟩ := w
        obtain ⟨c, hc, rfl⟩ := signs_get hd
        walk_at "wp"
        walk_at "go"
        refine ⟨sz_lt (by simp; rw [signs_len] at hi; have : z.cps.size = z.length := rfl; omega), rfl, ?_⟩
        rw [take_succ_get hc, List.map_append, List.map_append]
        rfl
      · obtain ⟨rfl, rfl⟩ := w
        rw [signs_len, List.take_of_length_le (by simp)]
        walk_at "go"
        have e : isName z = ((z.cps.toList.map letter).all id) := by
          unfold isName
          rw [decide_eq_true ⟨by omega, by omega⟩, List.all_map, Bool.true_and]
          rfl
        rw [e] at kq
        exact kq
  · walk_at "go"
    have e : isName z = false := by
      unfold isName
      rw [decide_eq_false (by omega)]; rfl
    rw [e] at kq
    exact kq
theorem c_is_name (T : Txt K mg w) : Cal P w K mg base 1 "is_name" ["text"] [] sp_is_name := by
  refine cal_of T.d_is_name sc_is_name (fun ds μ Q E h => by obtain ⟨_, rfl, _⟩ := h; rfl) (fun _ _ _ _ _ _ us hl => match us, hl with | [_], _ => rfl) (fun f Z cdv A outer s H _ E hr M hcd =>
      ⟨_, (ss_cons (s_if (t_not (t_chain o_le o_le d_int (d_callB c_len rfl T.b_len PySem.boot_len (a_cons (d_var 0) a_nil)) d_int))
      (ss_one (s_ret d_bl))
      ss_nil)
      (ss_one (s_ret (d_callB (c_all rfl) rfl T.b_all (by decide +kernel) (a_cons (d_ice (f_lc (own := [("sign", 1)]) rfl sc_is_name.nd (go_name (by decide)) (i_str (d_var 0)) (blkOk_by (N := N_is_name) (sc := defScope s_is_name) (by decide +kernel)) (fun _ _ _ _ _ => (g_name (i := 1) sc_is_name.nd)) (fun _ _ _ _ _ => ts_nil) (fun _ _ _ _ _ => (d_cmp o_inS (d_var 1) d_str)))) a_nil)))))⟩)
    (fun ds μ Q E h => ?_) (rd := rd_is_name)
  obtain ⟨b0, e, h⟩ := id h
  subst e
  exact read_is_name b0 μ Q E (by assumption)
/-! ### ask_name: 0 text -/
abbrev N_ask_name : List Str := ["text"]
theorem sc_ask_name : FnScope N_ask_name ["text"] (defScope s_ask_name) := ⟨rfl, rfl, rfl, by decide +kernel, rfl, by decide +kernel, by decide +kernel⟩
def sp_ask_name : DSp := Sp1 fun a μ Q E => ∃ z, a = .str z ∧ z.length ≤ 1000 ∧ (isName z = true → Q .non μ) ∧ (isName z = false → E "NoName" none μ)
instance st_sp_ask_name {a : D} {μ : Mem} {Q : QM} {E : DX} : Step (sp_ask_name [a] μ Q E) (∃ z, a = .str z ∧ z.length ≤ 1000 ∧ (isName z = true → Q .non μ) ∧ (isName z = false → E "NoName" none μ)) := ⟨fun h => ⟨_, rfl, h⟩⟩
def rd_ask_name (E : DX) : DS := (dIfS (dOr (dNot (dTest (dCB rdIsi (dCons (dVar 0) (dCons (dC (.ty "str")) dNil))))) (dNot (dTest (dCallX sp_is_name [] (XDE E) (dCons (dVar 0) dNil))))) (dRaise (XDE E) "NoName") dNext)
theorem read_ask_name : ∀ (a0 : D) (μ : Mem) (Q : QM) (E : DX), sp_ask_name [a0] μ Q E → rd_ask_name E ⟨fun _ μ2 => Q .non μ2, Q, fun _ _ => False, fun _ _ => False⟩ [.val a0] μ := by
  rintro _ μ Q E ⟨_, e, z, rfl, hz, k1, k2⟩
  cases e
  unfold rd_ask_name
  walk_at "au"
  · exact k2 (by assumption)
  · exact k1 (by assumption)
theorem c_ask_name (T : Txt K mg w) : Cal P w K mg base 2 "ask_name" ["text"] [] sp_ask_name := by
  refine cal_of T.d_ask_name sc_ask_name (fun ds μ Q E h => by obtain ⟨_, rfl, _⟩ := h; rfl) (fun _ _ _ _ _ _ us hl => match us, hl with | [_], _ => rfl) (fun f Z cdv A outer s H _ E hr M hcd =>
      ⟨_, (ss_one (s_if (t_w (w_or (t_not (t_valP (d_callB c_isi rfl T.b_isinstance (by decide +kernel) (a_cons (d_var 0) (a_cons (d_bltn rfl T.b_str (by decide +kernel)) a_nil))))) (w_or1 (t_not (t_valP (d_callX 0 (c_is_name T) (by decide) dfl0 (hr.mono (by decide)) M (a_cons (d_var 0) a_nil)))))))
      (ss_one (s_raise M T.ec_NoName))
      ss_nil))⟩)
    (fun ds μ Q E h => ?_) (rd := rd_ask_name)
  obtain ⟨b0, e, h⟩ := id h
  subst e
  exact read_ask_name b0 μ Q E (by assumption)
/-! ### Called.__init__: 0 self, 1 when, 2 town -/
abbrev N_Called___init__ : List Str := ["self", "when", "town"]
theorem sc_Called___init__ : FnScope N_Called___init__ ["self", "when", "town"] (defScope s_Called___init__) := ⟨rfl, rfl, rfl, by decide +kernel, rfl, by decide +kernel, by decide +kernel⟩
def sp_Called___init__ : DSp := Sp3 fun a b c μ Q E => ∃ p kw, a = .ref p ∧ μ p = some (.obj "Called" []) ∧ ((b = .str "made" ∧ kw = true) ∨ (b = .str "paid" ∧ kw = true) ∨ numOk 0 9999 b = some kw) ∧ (c = .non ∨ ∃ t : Str, c = .str t ∧ t.length ≤ 1000) ∧
  (kw = false → E "NoDay" none μ) ∧ (kw = true → (∃ t, c = .str t ∧ isName t = false) → E "NoName" none μ) ∧ (kw = true → (∀ t, c = .str t → isName t = true) → Q .non (updM μ p (.obj "Called" [("when", b), ("town", c)])))
theorem ne_num {μ : Mem} {QM' : QM} {b : D} {z : Str} {lo hi : Int} {k : Bool} (h : numOk lo hi b = some k) (hz : Al Cp z) (q : QM' (.bl true) μ) : rdNe b (.str z) μ QM' := by
  cases b with
  | int i => exact ne_pl pl_int (pl_str hz) (by decide) (by decide) (b := false) rfl q
  | bl i => exact ne_pl pl_bl (pl_str hz) (by decide) (by decide) (b := false) rfl q
  | _ => cases h
instance st_sp_Called___init__ {a b c : D} {μ : Mem} {Q : QM} {E : DX} : Step (sp_Called___init__ [a, b, c] μ Q E) (∃ p kw, a = .ref p ∧ μ p = some (.obj "Called" []) ∧ ((b = .str "made" ∧ kw = true) ∨ (b = .str "paid" ∧ kw = true) ∨ numOk 0 9999 b = some kw) ∧ (c = .non ∨ ∃ t : Str, c = .str t ∧ t.length ≤ 1000) ∧
  (kw = false → E "NoDay" none μ) ∧ (kw = true → (∃ t, c = .str t ∧ isName t = false) → E "NoName" none μ) ∧ (kw = true → (∀ t, c = .str t → isName t = true) → Q .non (updM μ p (.obj "Called" [("when", b), ("town", c)])))) := ⟨fun h => ⟨_, _, _, rfl, h⟩⟩
def rd_Called___init__ (E : DX) : DS := (dCut (dIfS (dAnd (dTest (dOp rdNe (dVar 1) (dC (.str "made")))) (dAnd (dTest (dOp rdNe (dVar 1) (dC (.str "paid")))) (dNot (dTest (dCallX sp_is_number [] (XDE E) (dCons (dVar 1) (dCons (dC (.int 0)) (dCons (dC (.int 9999)) dNil)))))))) (dRaise (XDE E) "NoDay") dNext)
  (dSeq (dIfS (dTest (dOp rdNotN (dVar 2) (dC .non))) (dDrop (dCallX sp_ask_name [] (XDE E) (dCons (dVar 2) dNil))) dNext)
  (dSeq (dSetFld "Called" "when" (dVar 0) (dVar 1))
  (dSetFld "Called" "town" (dVar 0) (dVar 2)))))
theorem read_Called___init__ : ∀ (a0 a1 a2 : D) (μ : Mem) (Q : QM) (E : DX), sp_Called___init__ [a0, a1, a2] μ Q E → rd_Called___init__ E ⟨fun _ μ2 => Q .non μ2, Q, fun _ _ => False, fun _ _ => False⟩ [.val a0, .val a1, .val a2] μ := by
  rintro _ b c μ Q E ⟨_, _, _, e, p, kw, rfl, hp, hb, hc, k1, k2, k3⟩
  cases e
  unfold rd_Called___init__
  have made : Al Cp "made" := fun d hd => of_decide_eq_true (List.all_eq_true.mp (show (Str.ofString "made").cps.toList.all (fun c => decide (c < 0x110000)) = true by decide +kernel) d hd)
  have paid : Al Cp "paid" := fun d hd => of_decide_eq_true (List.all_eq_true.mp (show (Str.ofString "paid").cps.toList.all (fun c => decide (c < 0x110000)) = true by decide +kernel) d hd)
  walk_at "go"
  refine cut_by (fun δ' μ' => kw = true ∧ μ' = μ ∧ δ' = [.val (.ref p), .val b, .val c]) ?_ ?_
  · rcases hb with ⟨rfl, rfl⟩ | ⟨rfl, rfl⟩ | hb
    · walk_at "go"
      refine ite_nd (fun h => absurd rfl h) (fun _ => ?_)
      walk_at "go"
      exact wn ⟨rfl, rfl, rfl⟩ (by simp [Le])
    · walk_at "go"
      refine ite_nd (fun _ => ?_) (fun h => absurd h (by decide +kernel))
      walk_at "go"
      refine ite_nd (fun h => absurd rfl h) (fun _ => ?_)
      walk_at "go"
      exact wn ⟨rfl, rfl, rfl⟩ (by simp [Le])
    · walk_at "go"
      refine ne_num hb made ?_
      walk_at "go"
      refine ne_num hb paid ?_
      walk_at "go"
      refine ⟨0, 9999, kw, rfl, rfl, hb, ?_⟩
      walk_at "go"
      refine ite_nb (fun h => ?_) (fun h => ?_)
      · walk_at "go"
        exact k1 h
      · walk_at "go"
        exact wn ⟨h, rfl, rfl⟩ (by simp [Le])
  rintro _ _ ⟨hk, rfl, rfl⟩
  rcases hc with rfl | ⟨t, rfl, ht⟩
  · walk_at "go"
    refine tof_ref (fs := []) hp pt_Called_when (by decide) ?_
    walk_at "go"
    refine tof_ref (fs := [("when", b)]) updM_same pt_Called_town (by simp) ?_
    rw [updM_upd]
    exact k3 hk (fun t z => nomatch z)
  · walk_at "go"
    refine ⟨ht, fun h => ?_, fun h => k2 hk ⟨t, rfl, h⟩⟩
    walk_at "go"
    refine tof_ref (fs := []) hp pt_Called_when (by decide) ?_
    walk_at "go"
    refine tof_ref (fs := [("when", b)]) updM_same pt_Called_town (by simp) ?_
    rw [updM_upd]
    exact k3 hk (fun u z => by cases z; exact h)
theorem c_Called___init__ (T : Txt K mg w) : CalI P w K mg base 3 "Called" ["self", "when", "town"] [.non] sp_Called___init__ := by
  refine calI_of T.d_Called___init__ sc_Called___init__ (fun ds μ Q E h => by obtain ⟨_, _, _, rfl, _⟩ := h; rfl) ⟨by decide, fun j hj T kV doc pm an cdv ct us its h1 h2 => by
      obtain ⟨i0, rfl⟩ := len1 h2
      have h1 : us.length + 1 = 3 + j := h1
      have hj : j ≤ 1 := hj
      rcases (by omega : j = 0 ∨ j = 1) with rfl | rfl
      · obtain ⟨u0, u1, rfl⟩ := len2 (l := us) (by omega)
        exact ⟨_, rfl, rfl⟩
      · obtain ⟨u0, u1, u2, rfl⟩ := len3 (l := us) (by omega)
        exact ⟨_, rfl, rfl⟩⟩ (fun f Z cdv A outer s H _ E hr M hcd =>
      ⟨_, (ss_cut (s_if (t_w (w_and (t_cmp (o_ne hr.units) (d_var 1) d_str) (w_and (t_cmp (o_ne hr.units) (d_var 1) d_str) (w_and1 (t_not (t_valP (d_callX 0 (c_is_number T) (by decide) dfl0 (hr.mono (by decide)) M (a_cons (d_var 1) (a_cons d_int (a_cons d_int a_nil))))))))))
      (ss_one (s_raise M T.ec_NoDay))
      ss_nil)
      (ss_cons (s_if (t_cmp o_notN (d_var 2) d_non)
      (ss_one (s_expr (d_callX 0 (c_ask_name T) (by decide) dfl0 (hr.mono (by decide)) M (a_cons (d_var 2) a_nil))))
      ss_nil)
      (ss_cons (s_setFldP T.cl_Called T.na_Called_when (d_var 0) (d_var 1))
      (ss_one (s_setFldP T.cl_Called T.na_Called_town (d_var 0) (d_var 2))))))⟩)
    (fun ds μ Q E h => ?_) (rd := rd_Called___init__)
  obtain ⟨b0, b1, b2, e, h⟩ := id h
  subst e
  exact read_Called___init__ b0 b1 b2 μ Q E (by assumption)
/-! ### Level.rules: 0 self -/
abbrev N_Level_rules : List Str := ["self"]
theorem sc_Level_rules : FnScope N_Level_rules ["self"] (defScope s_Level_rules) := ⟨rfl, rfl, rfl, by decide +kernel, rfl, by decide +kernel, by decide +kernel⟩
def sp_Level_rules : DSp := Sp1 fun a μ Q _ => (∃ fs, a = .obj "Level" fs) ∧ Q (.int 1) μ
instance st_sp_Level_rules {a : D} {μ : Mem} {Q : QM} {u3 : DX} : Step (sp_Level_rules [a] μ Q u3) ((∃ fs, a = .obj "Level" fs) ∧ Q (.int 1) μ) := ⟨fun h => ⟨_, rfl, h⟩⟩
def rd_Level_rules (E : DX) : DS := (dRet (dC (.int 1)))
theorem read_Level_rules : ∀ (a0 : D) (μ : Mem) (Q : QM) (E : DX), sp_Level_rules [a0] μ Q E → rd_Level_rules E ⟨fun _ μ2 => Q .non μ2, Q, fun _ _ => False, fun _ _ => False⟩ [.val a0] μ := by
  rintro _ μ Q E ⟨_, e, _, kq⟩
  cases e
  unfold rd_Level_rules
  walk_at "go"
  exact kq
theorem c_Level_rules (T : Txt K mg w) : CalM P w K mg base 1 "Level" "rules" ["self"] [] sp_Level_rules := by
  refine calM_of T.d_Level_rules sc_Level_rules (fun ds μ Q E h => by obtain ⟨_, rfl, _⟩ := h; rfl) (fun _ _ _ _ _ _ us hl => match us, hl with | [_], _ => rfl) (fun f Z cdv A outer s H _ E hr M hcd =>
      ⟨_, (ss_one (s_ret d_int))⟩)
    (fun ds μ Q E h => ?_) (rd := rd_Level_rules)
  obtain ⟨b0, e, h⟩ := id h
  subst e
  exact read_Level_rules b0 μ Q E (by assumption)
/-! ### Called.rules: 0 self -/
abbrev N_Called_rules : List Str := ["self"]
theorem sc_Called_rules : FnScope N_Called_rules ["self"] (defScope s_Called_rules) := ⟨rfl, rfl, rfl, by decide +kernel, rfl, by decide +kernel, by decide +kernel⟩
def sp_Called_rules : DSp := Sp1 fun a μ Q _ => (∃ fs, a = .obj "Called" fs) ∧ Q (.int 1) μ
instance st_sp_Called_rules {a : D} {μ : Mem} {Q : QM} {u3 : DX} : Step (sp_Called_rules [a] μ Q u3) ((∃ fs, a = .obj "Called" fs) ∧ Q (.int 1) μ) := ⟨fun h => ⟨_, rfl, h⟩⟩
def rd_Called_rules (E : DX) : DS := (dRet (dC (.int 1)))
theorem read_Called_rules : ∀ (a0 : D) (μ : Mem) (Q : QM) (E : DX), sp_Called_rules [a0] μ Q E → rd_Called_rules E ⟨fun _ μ2 => Q .non μ2, Q, fun _ _ => False, fun _ _ => False⟩ [.val a0] μ := by
  rintro _ μ Q E ⟨_, e, _, kq⟩
  cases e
  unfold rd_Called_rules
  walk_at "go"
  exact kq
theorem c_Called_rules (T : Txt K mg w) : CalM P w K mg base 1 "Called" "rules" ["self"] [] sp_Called_rules := by
  refine calM_of T.d_Called_rules sc_Called_rules (fun ds μ Q E h => by obtain ⟨_, rfl, _⟩ := h; rfl) (fun _ _ _ _ _ _ us hl => match us, hl with | [_], _ => rfl) (fun f Z cdv A outer s H _ E hr M hcd =>
      ⟨_, (ss_one (s_ret d_int))⟩)
    (fun ds μ Q E h => ?_) (rd := rd_Called_rules)
  obtain ⟨b0, e, h⟩ := id h
  subst e
  exact read_Called_rules b0 μ Q E (by assumption)
/-! ### Least.rules: 0 self, 1 term -/
abbrev N_Least_rules : List Str := ["self", "term"]
theorem sc_Least_rules : FnScope N_Least_rules ["self"] (defScope s_Least_rules) := ⟨rfl, rfl, rfl, by decide +kernel, rfl, by decide +kernel, by decide +kernel⟩
def sp_Least_rules (n : Nat) : DSp := Sp1 fun a μ Q _ => ∃ l : List Tm, IsObj μ a "Least" [("terms", .tup (l.map tmD))] ∧ dps l < n ∧ l.length ≤ 1000 ∧ (∀ t ∈ l, okT t) ∧ Q (.int (1 + ruls l)) μ
theorem vac_Least_rules : ∀ ds μ Q E, ¬ sp_Least_rules 0 ds μ Q E := fun _ _ _ _ ⟨_, _, _, _, h, _⟩ => absurd h (Nat.not_lt_zero _)
instance st_sp_Least_rules {n : Nat} {a : D} {μ : Mem} {Q : QM} {u3 : DX} : Step (sp_Least_rules n [a] μ Q u3) (∃ l : List Tm, IsObj μ a "Least" [("terms", .tup (l.map tmD))] ∧ dps l < n ∧ l.length ≤ 1000 ∧ (∀ t ∈ l, okT t) ∧ Q (.int (1 + ruls l)) μ) := ⟨fun h => ⟨_, rfl, h⟩⟩
/-! ### Greatest.rules: 0 self, 1 term -/
abbrev N_Greatest_rules : List Str := ["self", "term"]
theorem sc_Greatest_rules : FnScope N_Greatest_rules ["self"] (defScope s_Greatest_rules) := ⟨rfl, rfl, rfl, by decide +kernel, rfl, by decide +kernel, by decide +kernel⟩
def sp_Greatest_rules (n : Nat) : DSp := Sp1 fun a μ Q _ => ∃ l : List Tm, IsObj μ a "Greatest" [("terms", .tup (l.map tmD))] ∧ dps l < n ∧ l.length ≤ 1000 ∧ (∀ t ∈ l, okT t) ∧ Q (.int (1 + ruls l)) μ
theorem vac_Greatest_rules : ∀ ds μ Q E, ¬ sp_Greatest_rules 0 ds μ Q E := fun _ _ _ _ ⟨_, _, _, _, h, _⟩ => absurd h (Nat.not_lt_zero _)
instance st_sp_Greatest_rules {n : Nat} {a : D} {μ : Mem} {Q : QM} {u3 : DX} : Step (sp_Greatest_rules n [a] μ Q u3) (∃ l : List Tm, IsObj μ a "Greatest" [("terms", .tup (l.map tmD))] ∧ dps l < n ∧ l.length ≤ 1000 ∧ (∀ t ∈ l, okT t) ∧ Q (.int (1 + ruls l)) μ) := ⟨fun h => ⟨_, rfl, h⟩⟩
def rd_Least_rules (n : Nat) (E : DX) : DS := (dRet (dOp rdAdd (dC (.int 1)) (dCB rdSum (dCons (dIce (fLc (diTup (dFld "Least" "terms" (dVar 0))) (gdName 1) dYes (dOrE (dMethX "Level" "rules" sp_Level_rules [] XD0 (dVar 1) dNil) (dOrE (dMethX "Called" "rules" sp_Called_rules [] XD0 (dVar 1) dNil) (dOrE (dMethX "Least" "rules" (sp_Least_rules n) [] XD0 (dVar 1) dNil) (dMethX "Greatest" "rules" (sp_Greatest_rules n) [] XD0 (dVar 1) dNil)))) [1])) dNil))))
theorem read_Least_rules : ∀ (n : Nat) (a0 : D) (μ : Mem) (Q : QM) (E : DX), sp_Least_rules (n + 1) [a0] μ Q E → rd_Least_rules n E ⟨fun _ μ2 => Q .non μ2, Q, fun _ _ => False, fun _ _ => False⟩ [.val a0, .no] μ := by
  rintro n _ μ Q E ⟨_, e, l, ho, hn, hl, hk, kq⟩
  cases e
  unfold rd_Least_rules
  walk_at "go"
  refine ⟨_, _, ho, rfl, ?_⟩
  walk_at "go"
  refine lc_map (fun t => .int (rul t : Nat)) rfl (by omega) (fun t ht P hP => ?_) ?_
  · have hd := dps_mem ht
    have hkt := hk t ht
    walk_at "wp"
    walk_at "go"
    cases t with
    | lv i =>
      rw [tm_lv]
      refine .inl ?_
      walk_at "go"
      refine ⟨⟨_, rfl⟩, ?_⟩
      walk_at "go"
      rw [rul_lv] at hP
      exact hP
    | cd w z =>
      rw [tm_cd]
      refine .inr (.inl ?_)
      walk_at "go"
      refine ⟨⟨_, rfl⟩, ?_⟩
      walk_at "go"
      rw [rul_cd] at hP
      exact hP
    | ls l' =>
      rw [tm_ls]
      rw [dp_ls] at hd
      obtain ⟨o1, o2⟩ := ok_ls.mp hkt
      refine .inr (.inr (.inl ?_))
      walk_at "go"
      refine ⟨l', rfl, by omega, by omega, o2, ?_⟩
      walk_at "go"
      rw [rul_ls] at hP
      simpa using hP
    | gr l' =>
      rw [tm_gr]
      rw [dp_gr] at hd
      obtain ⟨o1, o2⟩ := ok_gr.mp hkt
      refine .inr (.inr (.inr ?_))
      walk_at "go"
      refine ⟨l', rfl, by omega, by omega, o2, ?_⟩
      walk_at "go"
      rw [rul_gr] at hP
      simpa using hP
  rw [show (l.map fun t => D.int (rul t : Nat)) = (l.map fun t => (rul t : Int)).map D.int from by rw [List.map_map]; rfl]
  walk_at "go"
  rw [rul_sum]
  exact kq
def rd_Greatest_rules (n : Nat) (E : DX) : DS := (dRet (dOp rdAdd (dC (.int 1)) (dCB rdSum (dCons (dIce (fLc (diTup (dFld "Greatest" "terms" (dVar 0))) (gdName 1) dYes (dOrE (dMethX "Level" "rules" sp_Level_rules [] XD0 (dVar 1) dNil) (dOrE (dMethX "Called" "rules" sp_Called_rules [] XD0 (dVar 1) dNil) (dOrE (dMethX "Least" "rules" (sp_Least_rules n) [] XD0 (dVar 1) dNil) (dMethX "Greatest" "rules" (sp_Greatest_rules n) [] XD0 (dVar 1) dNil)))) [1])) dNil))))
theorem read_Greatest_rules : ∀ (n : Nat) (a0 : D) (μ : Mem) (Q : QM) (E : DX), sp_Greatest_rules (n + 1) [a0] μ Q E → rd_Greatest_rules n E ⟨fun _ μ2 => Q .non μ2, Q, fun _ _ => False, fun _ _ => False⟩ [.val a0, .no] μ := by
  rintro n _ μ Q E ⟨_, e, l, ho, hn, hl, hk, kq⟩
  cases e
  unfold rd_Greatest_rules
  walk_at "go"
  refine ⟨_, _, ho, rfl, ?_⟩
  walk_at "go"
  refine lc_map (fun t => .int (rul t : Nat)) rfl (by omega) (fun t ht P hP => ?_) ?_
  · have hd := dps_mem ht
    have hkt := hk t ht
    walk_at "wp"
    walk_at "go"
    cases t with
    | lv i =>
      rw [tm_lv]
      refine .inl ?_
      walk_at "go"
      refine ⟨⟨_, rfl⟩, ?_⟩
      walk_at "go"
      rw [rul_lv] at hP
      exact hP
    | cd w z =>
      rw [tm_cd]
      refine .inr (.inl ?_)
      walk_at "go"
      refine ⟨⟨_, rfl⟩, ?_⟩
      walk_at "go"
      rw [rul_cd] at hP
      exact hP
    | ls l' =>
      rw [tm_ls]
      rw [dp_ls] at hd
      obtain ⟨o1, o2⟩ := ok_ls.mp hkt
      refine .inr (.inr (.inl ?_))
      walk_at "go"
      refine ⟨l', rfl, by omega, by omega, o2, ?_⟩
      walk_at "go"
      rw [rul_ls] at hP
      simpa using hP
    | gr l' =>
      rw [tm_gr]
      rw [dp_gr] at hd
      obtain ⟨o1, o2⟩ := ok_gr.mp hkt
      refine .inr (.inr (.inr ?_))
      walk_at "go"
      refine ⟨l', rfl, by omega, by omega, o2, ?_⟩
      walk_at "go"
      rw [rul_gr] at hP
      simpa using hP
  rw [show (l.map fun t => D.int (rul t : Nat)) = (l.map fun t => (rul t : Int)).map D.int from by rw [List.map_map]; rfl]
  walk_at "go"
  rw [rul_sum]
  exact kq
theorem cs_Least_rules (T : Txt K mg w) : ∀ n : Nat, (CalM P w K mg base (1 + n) "Least" "rules" ["self"] [] (sp_Least_rules n)) ∧ (CalM P w K mg base (1 + n) "Greatest" "rules" ["self"] [] (sp_Greatest_rules n)) := by
  intro n
  induction n with
  | zero => exact ⟨calM_vac T.d_Least_rules (fun _ _ _ _ _ _ us hl => match us, hl with | [_], _ => rfl) vac_Least_rules, calM_vac T.d_Greatest_rules (fun _ _ _ _ _ _ us hl => match us, hl with | [_], _ => rfl) vac_Greatest_rules⟩
  | succ n IH =>
    obtain ⟨ih_Least_rules, ih_Greatest_rules⟩ := IH
    refine ⟨?_, ?_⟩
    · refine calM_of (k := 1 + n) T.d_Least_rules sc_Least_rules (fun ds μ Q E h => by obtain ⟨_, rfl, _⟩ := h; rfl) (fun _ _ _ _ _ _ us hl => match us, hl with | [_], _ => rfl) (fun f Z cdv A outer s H _ E hr M hcd =>
          ⟨_, (ss_one (s_ret (d_op o_add d_int (d_callB (c_sum rfl) rfl T.b_sum (by decide +kernel) (a_cons (d_ice (f_lc (own := [("term", 1)]) rfl sc_Least_rules.nd (go_name (by decide)) (i_tup (d_fld T.cl_Least T.na_Least_terms (d_var 0))) (blkOk_by (N := N_Least_rules) (sc := defScope s_Least_rules) (by decide +kernel)) (fun _ _ _ _ _ => (g_name (i := 1) sc_Least_rules.nd)) (fun _ _ _ _ _ => ts_nil) (fun _ _ _ _ _ => (d_orE (d_methX0 0 (c_Level_rules T) (by decide) dfl0 (hr.mono (by omega)) (md_blk (K := K) (Z := Z) M.gd) (d_var 1)) (d_orE (d_methX0 0 (c_Called_rules T) (by decide) dfl0 (hr.mono (by omega)) (md_blk (K := K) (Z := Z) M.gd) (d_var 1)) (d_orE (d_methX0 0 ih_Least_rules (by decide) dfl0 (hr.mono (by omega)) (md_blk (K := K) (Z := Z) M.gd) (d_var 1)) (d_methX0 0 ih_Greatest_rules (by decide) dfl0 (hr.mono (by omega)) (md_blk (K := K) (Z := Z) M.gd) (d_var 1)))))))) a_nil)))))⟩)
        (fun ds μ Q E h => ?_) (rd := rd_Least_rules n)
      obtain ⟨b0, e, h⟩ := id h
      subst e
      exact read_Least_rules n b0 μ Q E (by assumption)
    · refine calM_of (k := 1 + n) T.d_Greatest_rules sc_Greatest_rules (fun ds μ Q E h => by obtain ⟨_, rfl, _⟩ := h; rfl) (fun _ _ _ _ _ _ us hl => match us, hl with | [_], _ => rfl) (fun f Z cdv A outer s H _ E hr M hcd =>
          ⟨_, (ss_one (s_ret (d_op o_add d_int (d_callB (c_sum rfl) rfl T.b_sum (by decide +kernel) (a_cons (d_ice (f_lc (own := [("term", 1)]) rfl sc_Greatest_rules.nd (go_name (by decide)) (i_tup (d_fld T.cl_Greatest T.na_Greatest_terms (d_var 0))) (blkOk_by (N := N_Greatest_rules) (sc := defScope s_Greatest_rules) (by decide +kernel)) (fun _ _ _ _ _ => (g_name (i := 1) sc_Greatest_rules.nd)) (fun _ _ _ _ _ => ts_nil) (fun _ _ _ _ _ => (d_orE (d_methX0 0 (c_Level_rules T) (by decide) dfl0 (hr.mono (by omega)) (md_blk (K := K) (Z := Z) M.gd) (d_var 1)) (d_orE (d_methX0 0 (c_Called_rules T) (by decide) dfl0 (hr.mono (by omega)) (md_blk (K := K) (Z := Z) M.gd) (d_var 1)) (d_orE (d_methX0 0 ih_Least_rules (by decide) dfl0 (hr.mono (by omega)) (md_blk (K := K) (Z := Z) M.gd) (d_var 1)) (d_methX0 0 ih_Greatest_rules (by decide) dfl0 (hr.mono (by omega)) (md_blk (K := K) (Z := Z) M.gd) (d_var 1)))))))) a_nil)))))⟩)
        (fun ds μ Q E h => ?_) (rd := rd_Greatest_rules n)
      obtain ⟨b0, e, h⟩ := id h
      subst e
      exact read_Greatest_rules n b0 μ Q E (by assumption)
theorem c_Least_rules (T : Txt K mg w) : CalM P w K mg base 11 "Least" "rules" ["self"] [] (sp_Least_rules 10) := (cs_Least_rules T 10).1
theorem c_Greatest_rules (T : Txt K mg w) : CalM P w K mg base 11 "Greatest" "rules" ["self"] [] (sp_Greatest_rules 10) := (cs_Least_rules T 10).2
/-! ### Level.deep: 0 self -/
abbrev N_Level_deep : List Str := ["self"]
theorem sc_Level_deep : FnScope N_Level_deep ["self"] (defScope s_Level_deep) := ⟨rfl, rfl, rfl, by decide +kernel, rfl, by decide +kernel, by decide +kernel⟩
def sp_Level_deep : DSp := Sp1 fun a μ Q _ => (∃ fs, a = .obj "Level" fs) ∧ Q (.int 1) μ
instance st_sp_Level_deep {a : D} {μ : Mem} {Q : QM} {u3 : DX} : Step (sp_Level_deep [a] μ Q u3) ((∃ fs, a = .obj "Level" fs) ∧ Q (.int 1) μ) := ⟨fun h => ⟨_, rfl, h⟩⟩
def rd_Level_deep (E : DX) : DS := (dRet (dC (.int 1)))
theorem read_Level_deep : ∀ (a0 : D) (μ : Mem) (Q : QM) (E : DX), sp_Level_deep [a0] μ Q E → rd_Level_deep E ⟨fun _ μ2 => Q .non μ2, Q, fun _ _ => False, fun _ _ => False⟩ [.val a0] μ := by
  rintro _ μ Q E ⟨_, e, _, kq⟩
  cases e
  unfold rd_Level_deep
  walk_at "go"
  exact kq
theorem c_Level_deep (T : Txt K mg w) : CalM P w K mg base 1 "Level" "deep" ["self"] [] sp_Level_deep := by
  refine calM_of T.d_Level_deep sc_Level_deep (fun ds μ Q E h => by obtain ⟨_, rfl, _⟩ := h; rfl) (fun _ _ _ _ _ _ us hl => match us, hl with | [_], _ => rfl) (fun f Z cdv A outer s H _ E hr M hcd =>
      ⟨_, (ss_one (s_ret d_int))⟩)
    (fun ds μ Q E h => ?_) (rd := rd_Level_deep)
  obtain ⟨b0, e, h⟩ := id h
  subst e
  exact read_Level_deep b0 μ Q E (by assumption)
/-! ### Called.deep: 0 self -/
abbrev N_Called_deep : List Str := ["self"]
theorem sc_Called_deep : FnScope N_Called_deep ["self"] (defScope s_Called_deep) := ⟨rfl, rfl, rfl, by decide +kernel, rfl, by decide +kernel, by decide +kernel⟩
def sp_Called_deep : DSp := Sp1 fun a μ Q _ => (∃ fs, a = .obj "Called" fs) ∧ Q (.int 1) μ
instance st_sp_Called_deep {a : D} {μ : Mem} {Q : QM} {u3 : DX} : Step (sp_Called_deep [a] μ Q u3) ((∃ fs, a = .obj "Called" fs) ∧ Q (.int 1) μ) := ⟨fun h => ⟨_, rfl, h⟩⟩
def rd_Called_deep (E : DX) : DS := (dRet (dC (.int 1)))
theorem read_Called_deep : ∀ (a0 : D) (μ : Mem) (Q : QM) (E : DX), sp_Called_deep [a0] μ Q E → rd_Called_deep E ⟨fun _ μ2 => Q .non μ2, Q, fun _ _ => False, fun _ _ => False⟩ [.val a0] μ := by
  rintro _ μ Q E ⟨_, e, _, kq⟩
  cases e
  unfold rd_Called_deep
  walk_at "go"
  exact kq
theorem c_Called_deep (T : Txt K mg w) : CalM P w K mg base 1 "Called" "deep" ["self"] [] sp_Called_deep := by
  refine calM_of T.d_Called_deep sc_Called_deep (fun ds μ Q E h => by obtain ⟨_, rfl, _⟩ := h; rfl) (fun _ _ _ _ _ _ us hl => match us, hl with | [_], _ => rfl) (fun f Z cdv A outer s H _ E hr M hcd =>
      ⟨_, (ss_one (s_ret d_int))⟩)
    (fun ds μ Q E h => ?_) (rd := rd_Called_deep)
  obtain ⟨b0, e, h⟩ := id h
  subst e
  exact read_Called_deep b0 μ Q E (by assumption)
/-! ### Least.deep: 0 self, 1 term -/
abbrev N_Least_deep : List Str := ["self", "term"]
theorem sc_Least_deep : FnScope N_Least_deep ["self"] (defScope s_Least_deep) := ⟨rfl, rfl, rfl, by decide +kernel, rfl, by decide +kernel, by decide +kernel⟩
def sp_Least_deep (n : Nat) : DSp := Sp1 fun a μ Q _ => ∃ l : List Tm, IsObj μ a "Least" [("terms", .tup (l.map tmD))] ∧ dps l < n ∧ 0 < l.length ∧ l.length ≤ 1000 ∧ (∀ t ∈ l, okT t) ∧ Q (.int (1 + dps l)) μ
theorem vac_Least_deep : ∀ ds μ Q E, ¬ sp_Least_deep 0 ds μ Q E := fun _ _ _ _ ⟨_, _, _, _, h, _⟩ => absurd h (Nat.not_lt_zero _)
instance st_sp_Least_deep {n : Nat} {a : D} {μ : Mem} {Q : QM} {u3 : DX} : Step (sp_Least_deep n [a] μ Q u3) (∃ l : List Tm, IsObj μ a "Least" [("terms", .tup (l.map tmD))] ∧ dps l < n ∧ 0 < l.length ∧ l.length ≤ 1000 ∧ (∀ t ∈ l, okT t) ∧ Q (.int (1 + dps l)) μ) := ⟨fun h => ⟨_, rfl, h⟩⟩
/-! ### Greatest.deep: 0 self, 1 term -/
abbrev N_Greatest_deep : List Str := ["self", "term"]
theorem sc_Greatest_deep : FnScope N_Greatest_deep ["self"] (defScope s_Greatest_deep) := ⟨rfl, rfl, rfl, by decide +kernel, rfl, by decide +kernel, by decide +kernel⟩
def sp_Greatest_deep (n : Nat) : DSp := Sp1 fun a μ Q _ => ∃ l : List Tm, IsObj μ a "Greatest" [("terms", .tup (l.map tmD))] ∧ dps l < n ∧ 0 < l.length ∧ l.length ≤ 1000 ∧ (∀ t ∈ l, okT t) ∧ Q (.int (1 + dps l)) μ
theorem vac_Greatest_deep : ∀ ds μ Q E, ¬ sp_Greatest_deep 0 ds μ Q E := fun _ _ _ _ ⟨_, _, _, _, h, _⟩ => absurd h (Nat.not_lt_zero _)
instance st_sp_Greatest_deep {n : Nat} {a : D} {μ : Mem} {Q : QM} {u3 : DX} : Step (sp_Greatest_deep n [a] μ Q u3) (∃ l : List Tm, IsObj μ a "Greatest" [("terms", .tup (l.map tmD))] ∧ dps l < n ∧ 0 < l.length ∧ l.length ≤ 1000 ∧ (∀ t ∈ l, okT t) ∧ Q (.int (1 + dps l)) μ) := ⟨fun h => ⟨_, rfl, h⟩⟩
def rd_Least_deep (n : Nat) (E : DX) : DS := (dRet (dOp rdAdd (dC (.int 1)) (dCB rdMaxL (dCons (dIce (fLc (diTup (dFld "Least" "terms" (dVar 0))) (gdName 1) dYes (dOrE (dMethX "Level" "deep" sp_Level_deep [] XD0 (dVar 1) dNil) (dOrE (dMethX "Called" "deep" sp_Called_deep [] XD0 (dVar 1) dNil) (dOrE (dMethX "Least" "deep" (sp_Least_deep n) [] XD0 (dVar 1) dNil) (dMethX "Greatest" "deep" (sp_Greatest_deep n) [] XD0 (dVar 1) dNil)))) [1])) dNil))))
theorem read_Least_deep : ∀ (n : Nat) (a0 : D) (μ : Mem) (Q : QM) (E : DX), sp_Least_deep (n + 1) [a0] μ Q E → rd_Least_deep n E ⟨fun _ μ2 => Q .non μ2, Q, fun _ _ => False, fun _ _ => False⟩ [.val a0, .no] μ := by
  rintro n _ μ Q E ⟨_, e, l, ho, hn, h0, hl, hk, kq⟩
  cases e
  unfold rd_Least_deep
  walk_at "go"
  refine ⟨_, _, ho, rfl, ?_⟩
  walk_at "go"
  refine lc_map (fun t => .int (dp t : Nat)) rfl (by omega) (fun t ht P hP => ?_) ?_
  · have hd := dps_mem ht
    have hkt := hk t ht
    walk_at "wp"
    walk_at "go"
    cases t with
    | lv i =>
      rw [tm_lv]
      refine .inl ?_
      walk_at "go"
      refine ⟨⟨_, rfl⟩, ?_⟩
      walk_at "go"
      rw [dp_lv] at hP
      exact hP
    | cd w z =>
      rw [tm_cd]
      refine .inr (.inl ?_)
      walk_at "go"
      refine ⟨⟨_, rfl⟩, ?_⟩
      walk_at "go"
      rw [dp_cd] at hP
      exact hP
    | ls l' =>
      rw [tm_ls]
      rw [dp_ls] at hd hP
      obtain ⟨o1, o2⟩ := ok_ls.mp hkt
      refine .inr (.inr (.inl ?_))
      walk_at "go"
      refine ⟨l', rfl, by omega, by omega, by omega, o2, ?_⟩
      walk_at "go"
      simpa using hP
    | gr l' =>
      rw [tm_gr]
      rw [dp_gr] at hd hP
      obtain ⟨o1, o2⟩ := ok_gr.mp hkt
      refine .inr (.inr (.inr ?_))
      walk_at "go"
      refine ⟨l', rfl, by omega, by omega, by omega, o2, ?_⟩
      walk_at "go"
      simpa using hP
  rw [show (l.map fun t => D.int (dp t : Nat)) = (l.map fun t => (dp t : Int)).map D.int from by rw [List.map_map]; rfl]
  walk_at "go"
  refine i_maxL (ns := l.map fun t => (dp t : Int)) rfl (by rw [List.length_map]; exact h0) fun M m1 m2 => ?_
  rw [dps_max m1 m2]
  walk_at "go"
  exact kq
def rd_Greatest_deep (n : Nat) (E : DX) : DS := (dRet (dOp rdAdd (dC (.int 1)) (dCB rdMaxL (dCons (dIce (fLc (diTup (dFld "Greatest" "terms" (dVar 0))) (gdName 1) dYes (dOrE (dMethX "Level" "deep" sp_Level_deep [] XD0 (dVar 1) dNil) (dOrE (dMethX "Called" "deep" sp_Called_deep [] XD0 (dVar 1) dNil) (dOrE (dMethX "Least" "deep" (sp_Least_deep n) [] XD0 (dVar 1) dNil) (dMethX "Greatest" "deep" (sp_Greatest_deep n) [] XD0 (dVar 1) dNil)))) [1])) dNil))))
theorem read_Greatest_deep : ∀ (n : Nat) (a0 : D) (μ : Mem) (Q : QM) (E : DX), sp_Greatest_deep (n + 1) [a0] μ Q E → rd_Greatest_deep n E ⟨fun _ μ2 => Q .non μ2, Q, fun _ _ => False, fun _ _ => False⟩ [.val a0, .no] μ := by
  rintro n _ μ Q E ⟨_, e, l, ho, hn, h0, hl, hk, kq⟩
  cases e
  unfold rd_Greatest_deep
  walk_at "go"
  refine ⟨_, _, ho, rfl, ?_⟩
  walk_at "go"
  refine lc_map (fun t => .int (dp t : Nat)) rfl (by omega) (fun t ht P hP => ?_) ?_
  · have hd := dps_mem ht
    have hkt := hk t ht
    walk_at "wp"
    walk_at "go"
    cases t with
    | lv i =>
      rw [tm_lv]
      refine .inl ?_
      walk_at "go"
      refine ⟨⟨_, rfl⟩, ?_⟩
      walk_at "go"
      rw [dp_lv] at hP
      exact hP
    | cd w z =>
      rw [tm_cd]
      refine .inr (.inl ?_)
      walk_at "go"
      refine ⟨⟨_, rfl⟩, ?_⟩
      walk_at "go"
      rw [dp_cd] at hP
      exact hP
    | ls l' =>
      rw [tm_ls]
      rw [dp_ls] at hd hP
      obtain ⟨o1, o2⟩ := ok_ls.mp hkt
      refine .inr (.inr (.inl ?_))
      walk_at "go"
      refine ⟨l', rfl, by omega, by omega, by omega, o2, ?_⟩
      walk_at "go"
      simpa using hP
    | gr l' =>
      rw [tm_gr]
      rw [dp_gr] at hd hP
      obtain ⟨o1, o2⟩ := ok_gr.mp hkt
      refine .inr (.inr (.inr ?_))
      walk_at "go"
      refine ⟨l', rfl, by omega, by omega, by omega, o2, ?_⟩
      walk_at "go"
      simpa using hP
  rw [show (l.map fun t => D.int (dp t : Nat)) = (l.map fun t => (dp t : Int)).map D.int from by rw [List.map_map]; rfl]
  walk_at "go"
  refine i_maxL (ns := l.map fun t => (dp t : Int)) rfl (by rw [List.length_map]; exact h0) fun M m1 m2 => ?_
  rw [dps_max m1 m2]
  walk_at "go"
  exact kq
theorem cs_Least_deep (T : Txt K mg w) : ∀ n : Nat, (CalM P w K mg base (1 + n) "Least" "deep" ["self"] [] (sp_Least_deep n)) ∧ (CalM P w K mg base (1 + n) "Greatest" "deep" ["self"] [] (sp_Greatest_deep n)) := by
  intro n
  induction n with
  | zero => exact ⟨calM_vac T.d_Least_deep (fun _ _ _ _ _ _ us hl => match us, hl with | [_], _ => rfl) vac_Least_deep, calM_vac T.d_Greatest_deep (fun _ _ _ _ _ _ us hl => match us, hl with | [_], _ => rfl) vac_Greatest_deep⟩
  | succ n IH =>
    obtain ⟨ih_Least_deep, ih_Greatest_deep⟩ := IH
    refine ⟨?_, ?_⟩
    · refine calM_of (k := 1 + n) T.d_Least_deep sc_Least_deep (fun ds μ Q E h => by obtain ⟨_, rfl, _⟩ := h; rfl) (fun _ _ _ _ _ _ us hl => match us, hl with | [_], _ => rfl) (fun f Z cdv A outer s H _ E hr M hcd =>
          ⟨_, (ss_one (s_ret (d_op o_add d_int (d_callB (c_maxL rfl) rfl T.b_max boot_max (a_cons (d_ice (f_lc (own := [("term", 1)]) rfl sc_Least_deep.nd (go_name (by decide)) (i_tup (d_fld T.cl_Least T.na_Least_terms (d_var 0))) (blkOk_by (N := N_Least_deep) (sc := defScope s_Least_deep) (by decide +kernel)) (fun _ _ _ _ _ => (g_name (i := 1) sc_Least_deep.nd)) (fun _ _ _ _ _ => ts_nil) (fun _ _ _ _ _ => (d_orE (d_methX0 0 (c_Level_deep T) (by decide) dfl0 (hr.mono (by omega)) (md_blk (K := K) (Z := Z) M.gd) (d_var 1)) (d_orE (d_methX0 0 (c_Called_deep T) (by decide) dfl0 (hr.mono (by omega)) (md_blk (K := K) (Z := Z) M.gd) (d_var 1)) (d_orE (d_methX0 0 ih_Least_deep (by decide) dfl0 (hr.mono (by omega)) (md_blk (K := K) (Z := Z) M.gd) (d_var 1)) (d_methX0 0 ih_Greatest_deep (by decide) dfl0 (hr.mono (by omega)) (md_blk (K := K) (Z := Z) M.gd) (d_var 1)))))))) a_nil)))))⟩)
        (fun ds μ Q E h => ?_) (rd := rd_Least_deep n)
      obtain ⟨b0, e, h⟩ := id h
      subst e
      exact read_Least_deep n b0 μ Q E (by assumption)
    · refine calM_of (k := 1 + n) T.d_Greatest_deep sc_Greatest_deep (fun ds μ Q E h => by obtain ⟨_, rfl, _⟩ := h; rfl) (fun _ _ _ _ _ _ us hl => match us, hl with | [_], _ => rfl) (fun f Z cdv A outer s H _ E hr M hcd =>
          ⟨_, (ss_one (s_ret (d_op o_add d_int (d_callB (c_maxL rfl) rfl T.b_max boot_max (a_cons (d_ice (f_lc (own := [("term", 1)]) rfl sc_Greatest_deep.nd (go_name (by decide)) (i_tup (d_fld T.cl_Greatest T.na_Greatest_terms (d_var 0))) (blkOk_by (N := N_Greatest_deep) (sc := defScope s_Greatest_deep) (by decide +kernel)) (fun _ _ _ _ _ => (g_name (i := 1) sc_Greatest_deep.nd)) (fun _ _ _ _ _ => ts_nil) (fun _ _ _ _ _ => (d_orE (d_methX0 0 (c_Level_deep T) (by decide) dfl0 (hr.mono (by omega)) (md_blk (K := K) (Z := Z) M.gd) (d_var 1)) (d_orE (d_methX0 0 (c_Called_deep T) (by decide) dfl0 (hr.mono (by omega)) (md_blk (K := K) (Z := Z) M.gd) (d_var 1)) (d_orE (d_methX0 0 ih_Least_deep (by decide) dfl0 (hr.mono (by omega)) (md_blk (K := K) (Z := Z) M.gd) (d_var 1)) (d_methX0 0 ih_Greatest_deep (by decide) dfl0 (hr.mono (by omega)) (md_blk (K := K) (Z := Z) M.gd) (d_var 1)))))))) a_nil)))))⟩)
        (fun ds μ Q E h => ?_) (rd := rd_Greatest_deep n)
      obtain ⟨b0, e, h⟩ := id h
      subst e
      exact read_Greatest_deep n b0 μ Q E (by assumption)
theorem c_Least_deep (T : Txt K mg w) : CalM P w K mg base 11 "Least" "deep" ["self"] [] (sp_Least_deep 10) := (cs_Least_deep T 10).1
theorem c_Greatest_deep (T : Txt K mg w) : CalM P w K mg base 11 "Greatest" "deep" ["self"] [] (sp_Greatest_deep 10) := (cs_Least_deep T 10).2
/-! ### Least.__init__: 0 self, 1 terms -/
abbrev N_Least___init__ : List Str := ["self", "terms"]
theorem sc_Least___init__ : FnScope N_Least___init__ ["self", "terms"] (defScope s_Least___init__) := ⟨rfl, rfl, rfl, by decide +kernel, rfl, by decide +kernel, by decide +kernel⟩
def sp_Least___init__ : DSp := Sp2 fun a b μ Q E => ∃ p l, a = .ref p ∧ μ p = some (.obj "Least" []) ∧ seqOf μ b = some (l.map tmD) ∧ l.length ≤ 1000 ∧ dps l < 10 ∧ (∀ t ∈ l, okT t) ∧
  ((2 ≤ l.length ∧ l.length ≤ 8 ∧ ruls l < 60 ∧ dps l < 8) → Q .non (updM μ p (.obj "Least" [("terms", .tup (l.map tmD))]))) ∧ (¬ (2 ≤ l.length ∧ l.length ≤ 8 ∧ ruls l < 60 ∧ dps l < 8) → E "NoTerm" none (updM μ p (.obj "Least" [("terms", .tup (l.map tmD))])))
instance st_sp_Least___init__ {a b : D} {μ : Mem} {Q : QM} {E : DX} : Step (sp_Least___init__ [a, b] μ Q E) (∃ p l, a = .ref p ∧ μ p = some (.obj "Least" []) ∧ seqOf μ b = some (l.map tmD) ∧ l.length ≤ 1000 ∧ dps l < 10 ∧ (∀ t ∈ l, okT t) ∧
  ((2 ≤ l.length ∧ l.length ≤ 8 ∧ ruls l < 60 ∧ dps l < 8) → Q .non (updM μ p (.obj "Least" [("terms", .tup (l.map tmD))]))) ∧ (¬ (2 ≤ l.length ∧ l.length ≤ 8 ∧ ruls l < 60 ∧ dps l < 8) → E "NoTerm" none (updM μ p (.obj "Least" [("terms", .tup (l.map tmD))])))) := ⟨fun h => ⟨_, _, rfl, h⟩⟩
def rd_Least___init__ (E : DX) : DS := (dSeq (dSetFld "Least" "terms" (dVar 0) (dCB rdTup (dCons (dVar 1) dNil)))
  (dSeq (dIfS (dNot (dTest (dChain rdLe rdLe (dC (.int 2)) (dCB rdLen (dCons (dFld "Least" "terms" (dVar 0)) dNil)) (dC (.int 8))))) (dRaise (XDE E) "NoTerm") dNext)
  (dIfS (dOr (dTest (dOp rdGt (dMethX "Least" "rules" (sp_Least_rules 10) [] (XDE E) (dVar 0) dNil) (dC (.int 60)))) (dTest (dOp rdGt (dMethX "Least" "deep" (sp_Least_deep 10) [] (XDE E) (dVar 0) dNil) (dC (.int 8))))) (dRaise (XDE E) "NoTerm") dNext)))
theorem read_Least___init__ : ∀ (a0 a1 : D) (μ : Mem) (Q : QM) (E : DX), sp_Least___init__ [a0, a1] μ Q E → rd_Least___init__ E ⟨fun _ μ2 => Q .non μ2, Q, fun _ _ => False, fun _ _ => False⟩ [.val a0, .val a1] μ := by
  rintro _ b μ Q E ⟨_, _, e, p, l, rfl, hp, hs, hl, hd, hk, k1, k2⟩
  cases e
  unfold rd_Least___init__
  walk_at "go"
  refine ⟨_, _, rfl, hs, ?_⟩
  walk_at "go"
  refine tof_ref (fs := []) hp pt_Least_terms (by decide) ?_
  have ho : IsObj (updM μ p (.obj "Least" [("terms", .tup (l.map tmD))])) (.ref p) "Least" [("terms", .tup (l.map tmD))] := obj_ref updM_same
  walk_at "go"
  refine ⟨_, _, ho, rfl, ?_⟩
  walk_at "go"
  rw [List.length_map]
  refine ite_d (fun h1 => ?_) (fun h1 => ?_)
  · walk_at "go"
    refine ite_nd (fun h2 => ?_) (fun h2 => ?_)
    · walk_at "go"
      exact k2 (by omega)
    · walk_at "go"
      refine onq ho rfl ?_
      walk_at "go"
      refine ⟨l, ho, hd, hl, hk, ?_⟩
      walk_at "go"
      refine ite_d (fun h3 => ?_) (fun h3 => ?_)
      · walk_at "go"
        exact k2 (by omega)
      · walk_at "go"
        refine onq ho rfl ?_
        walk_at "go"
        refine ⟨l, ho, hd, by omega, hl, hk, ?_⟩
        walk_at "go"
        refine ite_d (fun h4 => ?_) (fun h4 => ?_)
        · walk_at "go"
          exact k2 (by omega)
        · walk_at "go"
          exact k1 (by omega)
  · walk_at "go"
    exact k2 (by omega)
theorem c_Least___init__ (T : Txt K mg w) : CalI P w K mg base 12 "Least" ["self", "terms"] [] sp_Least___init__ := by
  refine calI_of T.d_Least___init__ sc_Least___init__ (fun ds μ Q E h => by obtain ⟨_, _, rfl, _⟩ := h; rfl) (fun _ _ _ _ _ _ us hl => match us, hl with | [_, _], _ => rfl) (fun f Z cdv A outer s H _ E hr M hcd =>
      ⟨_, (ss_cons (s_setFldP T.cl_Least T.na_Least_terms (d_var 0) (d_callTy c_tuple rfl T.b_tuple (by decide +kernel) (a_cons (d_var 1) a_nil)))
      (ss_cons (s_if (t_not (t_chain o_le o_le d_int (d_callB c_len rfl T.b_len PySem.boot_len (a_cons (d_fld T.cl_Least T.na_Least_terms (d_var 0)) a_nil)) d_int))
      (ss_one (s_raise M T.ec_NoTerm))
      ss_nil)
      (ss_one (s_if (t_w (w_or (t_cmp o_gt (d_methX0 0 (c_Least_rules T) (by decide) dfl0 (hr.mono (by decide)) M (d_var 0)) (d_globI rfl T.g_MOST_RULES.choose_spec ⟨_, rfl⟩)) (w_or1 (t_cmp o_gt (d_methX0 0 (c_Least_deep T) (by decide) dfl0 (hr.mono (by decide)) M (d_var 0)) (d_globI rfl T.g_MOST_DEEP.choose_spec ⟨_, rfl⟩)))))
      (ss_one (s_raise M T.ec_NoTerm))
      ss_nil))))⟩)
    (fun ds μ Q E h => ?_) (rd := rd_Least___init__)
  obtain ⟨b0, b1, e, h⟩ := id h
  subst e
  exact read_Least___init__ b0 b1 μ Q E (by assumption)
/-! ### Greatest.__init__: 0 self, 1 terms -/
abbrev N_Greatest___init__ : List Str := ["self", "terms"]
theorem sc_Greatest___init__ : FnScope N_Greatest___init__ ["self", "terms"] (defScope s_Greatest___init__) := ⟨rfl, rfl, rfl, by decide +kernel, rfl, by decide +kernel, by decide +kernel⟩
def sp_Greatest___init__ : DSp := Sp2 fun a b μ Q E => ∃ p l, a = .ref p ∧ μ p = some (.obj "Greatest" []) ∧ seqOf μ b = some (l.map tmD) ∧ l.length ≤ 1000 ∧ dps l < 10 ∧ (∀ t ∈ l, okT t) ∧
  ((2 ≤ l.length ∧ l.length ≤ 8 ∧ ruls l < 60 ∧ dps l < 8) → Q .non (updM μ p (.obj "Greatest" [("terms", .tup (l.map tmD))]))) ∧ (¬ (2 ≤ l.length ∧ l.length ≤ 8 ∧ ruls l < 60 ∧ dps l < 8) → E "NoTerm" none (updM μ p (.obj "Greatest" [("terms", .tup (l.map tmD))])))
instance st_sp_Greatest___init__ {a b : D} {μ : Mem} {Q : QM} {E : DX} : Step (sp_Greatest___init__ [a, b] μ Q E) (∃ p l, a = .ref p ∧ μ p = some (.obj "Greatest" []) ∧ seqOf μ b = some (l.map tmD) ∧ l.length ≤ 1000 ∧ dps l < 10 ∧ (∀ t ∈ l, okT t) ∧
  ((2 ≤ l.length ∧ l.length ≤ 8 ∧ ruls l < 60 ∧ dps l < 8) → Q .non (updM μ p (.obj "Greatest" [("terms", .tup (l.map tmD))]))) ∧ (¬ (2 ≤ l.length ∧ l.length ≤ 8 ∧ ruls l < 60 ∧ dps l < 8) → E "NoTerm" none (updM μ p (.obj "Greatest" [("terms", .tup (l.map tmD))])))) := ⟨fun h => ⟨_, _, rfl, h⟩⟩
def rd_Greatest___init__ (E : DX) : DS := (dSeq (dSetFld "Greatest" "terms" (dVar 0) (dCB rdTup (dCons (dVar 1) dNil)))
  (dSeq (dIfS (dNot (dTest (dChain rdLe rdLe (dC (.int 2)) (dCB rdLen (dCons (dFld "Greatest" "terms" (dVar 0)) dNil)) (dC (.int 8))))) (dRaise (XDE E) "NoTerm") dNext)
  (dIfS (dOr (dTest (dOp rdGt (dMethX "Greatest" "rules" (sp_Greatest_rules 10) [] (XDE E) (dVar 0) dNil) (dC (.int 60)))) (dTest (dOp rdGt (dMethX "Greatest" "deep" (sp_Greatest_deep 10) [] (XDE E) (dVar 0) dNil) (dC (.int 8))))) (dRaise (XDE E) "NoTerm") dNext)))
theorem read_Greatest___init__ : ∀ (a0 a1 : D) (μ : Mem) (Q : QM) (E : DX), sp_Greatest___init__ [a0, a1] μ Q E → rd_Greatest___init__ E ⟨fun _ μ2 => Q .non μ2, Q, fun _ _ => False, fun _ _ => False⟩ [.val a0, .val a1] μ := by
  rintro _ b μ Q E ⟨_, _, e, p, l, rfl, hp, hs, hl, hd, hk, k1, k2⟩
  cases e
  unfold rd_Greatest___init__
  walk_at "go"
  refine ⟨_, _, rfl, hs, ?_⟩
  walk_at "go"
  refine tof_ref (fs := []) hp pt_Greatest_terms (by decide) ?_
  have ho : IsObj (updM μ p (.obj "Greatest" [("terms", .tup (l.map tmD))])) (.ref p) "Greatest" [("terms", .tup (l.map tmD))] := obj_ref updM_same
  walk_at "go"
  refine ⟨_, _, ho, rfl, ?_⟩
  walk_at "go"
  rw [List.length_map]
  refine ite_d (fun h1 => ?_) (fun h1 => ?_)
  · walk_at "go"
    refine ite_nd (fun h2 => ?_) (fun h2 => ?_)
    · walk_at "go"
      exact k2 (by omega)
    · walk_at "go"
      refine onq ho rfl ?_
      walk_at "go"
      refine ⟨l, ho, hd, hl, hk, ?_⟩
      walk_at "go"
      refine ite_d (fun h3 => ?_) (fun h3 => ?_)
      · walk_at "go"
        exact k2 (by omega)
      · walk_at "go"
        refine onq ho rfl ?_
        walk_at "go"
        refine ⟨l, ho, hd, by omega, hl, hk, ?_⟩
        walk_at "go"
        refine ite_d (fun h4 => ?_) (fun h4 => ?_)
        · walk_at "go"
          exact k2 (by omega)
        · walk_at "go"
          exact k1 (by omega)
  · walk_at "go"
    exact k2 (by omega)
theorem c_Greatest___init__ (T : Txt K mg w) : CalI P w K mg base 12 "Greatest" ["self", "terms"] [] sp_Greatest___init__ := by
  refine calI_of T.d_Greatest___init__ sc_Greatest___init__ (fun ds μ Q E h => by obtain ⟨_, _, rfl, _⟩ := h; rfl) (fun _ _ _ _ _ _ us hl => match us, hl with | [_, _], _ => rfl) (fun f Z cdv A outer s H _ E hr M hcd =>
      ⟨_, (ss_cons (s_setFldP T.cl_Greatest T.na_Greatest_terms (d_var 0) (d_callTy c_tuple rfl T.b_tuple (by decide +kernel) (a_cons (d_var 1) a_nil)))
      (ss_cons (s_if (t_not (t_chain o_le o_le d_int (d_callB c_len rfl T.b_len PySem.boot_len (a_cons (d_fld T.cl_Greatest T.na_Greatest_terms (d_var 0)) a_nil)) d_int))
      (ss_one (s_raise M T.ec_NoTerm))
      ss_nil)
      (ss_one (s_if (t_w (w_or (t_cmp o_gt (d_methX0 0 (c_Greatest_rules T) (by decide) dfl0 (hr.mono (by decide)) M (d_var 0)) (d_globI rfl T.g_MOST_RULES.choose_spec ⟨_, rfl⟩)) (w_or1 (t_cmp o_gt (d_methX0 0 (c_Greatest_deep T) (by decide) dfl0 (hr.mono (by decide)) M (d_var 0)) (d_globI rfl T.g_MOST_DEEP.choose_spec ⟨_, rfl⟩)))))
      (ss_one (s_raise M T.ec_NoTerm))
      ss_nil))))⟩)
    (fun ds μ Q E h => ?_) (rd := rd_Greatest___init__)
  obtain ⟨b0, b1, e, h⟩ := id h
  subst e
  exact read_Greatest___init__ b0 b1 μ Q E (by assumption)
/-! ### _law_build: 0 _law_told_here, 1 _law_parts, 2 _law_term, 3 _law_part -/
abbrev N__law_build : List Str := ["_law_told_here", "_law_parts", "_law_term", "_law_part"]
theorem sc__law_build : FnScope N__law_build ["_law_told_here"] (defScope s__law_build) := ⟨rfl, rfl, rfl, by decide +kernel, rfl, by decide +kernel, by decide +kernel⟩
def sp__law_build (n : Nat) : DSp := Sp1 fun a μ Q _ => ∃ t : Tm, a = toldD t ∧ okT t ∧ dp t ≤ n ∧ Q (tmD t) μ
theorem vac__law_build : ∀ ds μ Q E, ¬ sp__law_build 0 ds μ Q E := fun _ _ _ _ ⟨_, _, t, _, _, h, _⟩ => by have := dp_pos t; omega
instance st_sp__law_build {n : Nat} {a : D} {μ : Mem} {Q : QM} {u3 : DX} : Step (sp__law_build n [a] μ Q u3) (∃ t : Tm, a = toldD t ∧ okT t ∧ dp t ≤ n ∧ Q (tmD t) μ) := ⟨fun h => ⟨_, rfl, h⟩⟩
def rd__law_build (n : Nat) (E : DX) : DS := (dSeq (dIfS (dTest (dOp rdEq (dOp rdIx (dVar 0) (dC (.int 0))) (dC (.str "level")))) (dRet (dMakeI "Level" sp_Level___init__ [] (XDE E) (dCons (dOp rdIx (dVar 0) (dC (.int 1))) dNil))) dNext)
  (dSeq (dIfS (dTest (dOp rdEq (dOp rdIx (dVar 0) (dC (.int 0))) (dC (.str "called")))) (dRet (dMakeI "Called" sp_Called___init__ [] (XDE E) (dCons (dOp rdIx (dVar 0) (dC (.int 1))) (dCons (dOp rdIx (dVar 0) (dC (.int 2))) dNil)))) dNext)
  (dSeq (dSet 1 (dCell (fLc (diTup (dSl (dVar 0) (dPart (dC (.int 1))) dNoPart)) (gdName 3) dYes (dCallX (sp__law_build n) [] XD0 (dCons (dVar 3) dNil)) [3])))
  (dSeq (dIfS (dTest (dOp rdEq (dOp rdIx (dVar 0) (dC (.int 0))) (dC (.str "least")))) (dSet 2 (dMakeI "Least" sp_Least___init__ [] (XDE E) (dCons (dVar 1) dNil))) (dSet 2 (dMakeI "Greatest" sp_Greatest___init__ [] (XDE E) (dCons (dVar 1) dNil))))
  (dSeq (dIfS (dTest (dOp rdNe (dCB rdLen (dCons (dVar 1) dNil)) (dOp rdSub (dCB rdLen (dCons (dVar 0) dNil)) (dC (.int 1))))) (dRet (dC .non)) dNext)
  (dSeq (dDrop (dLMM (dVar 1) lmClear dNil))
  (dRet (dVar 2))))))))
theorem read__law_build : ∀ (n : Nat) (a0 : D) (μ : Mem) (Q : QM) (E : DX), sp__law_build (n + 1) [a0] μ Q E → rd__law_build n (Ew E) ⟨fun _ μ2 => Qw Q .non μ2, Qw Q, fun _ _ => False, fun _ _ => False⟩ [.val a0, .no, .no, .no] μ := by
  rintro n _ μ Q E ⟨_, e, t, rfl, ok, hn, kq⟩
  cases e
  unfold rd__law_build
  cases t with
  | lv i =>
    rw [to_lv]
    rw [tm_lv] at kq
    have ok := ok_lv.mp ok
    walk_at "go"
    refine ite_d (fun _ => ?_) (fun h => absurd rfl h)
    walk_at "go"
    intro p hp
    walk_at "go"
    refine ⟨p, true, rfl, updM_same, numOk_int ok.1 ok.2, fun _ => ?_, fun h => (by cases h)⟩
    refine ice_n2 hp ?_
    walk_at "go"
    exact qw kq (LeM.refl _)
  | cd w t =>
    rw [to_cd]
    rw [tm_cd] at kq
    obtain ⟨ow, ot⟩ := ok_cd.mp ok
    walk_at "go"
    refine ite_d (fun h => absurd h (by decide +kernel)) (fun _ => ?_)
    walk_at "go"
    refine ite_d (fun _ => ?_) (fun h => absurd rfl h)
    walk_at "go"
    intro p hp
    walk_at "go"
    have ot2 : toD t = .non ∨ ∃ t' : Str, toD t = .str t' ∧ t'.length ≤ 1000 := by
      cases t with
      | none => exact .inl rfl
      | some t => exact .inr ⟨t, rfl, by have := (name_len (show isName t = true from ot)).2; omega⟩
    have ot3 : ∀ t', toD t = .str t' → isName t' = true := fun t' h => by
      cases t with
      | none => cases h
      | some t => cases h; exact ot
    refine ⟨p, true, rfl, updM_same, wh_isR ow, ot2, fun h => (by cases h), fun _ ⟨t', h, h2⟩ => (by rw [ot3 t' h] at h2; cases h2), fun _ _ => ?_⟩
    refine ice_n2 hp ?_
    walk_at "go"
    exact qw kq (LeM.refl _)
  | ls l =>
    rw [to_ls]
    rw [tm_ls] at kq
    rw [dp_ls] at hn
    obtain ⟨o1, o2⟩ := ok_ls.mp ok
    walk_at "go"
    refine ite_d (fun h => absurd h (by decide +kernel)) (fun _ => ?_)
    walk_at "go"
    refine ite_d (fun h => absurd h (by decide +kernel)) (fun _ => ?_)
    walk_at "go"
    rw [cut_tail]
    walk_at "go"
    refine lc_map tmD rfl (by omega) (fun t ht P hP => ?_) ?_
    · have := dps_mem ht
      walk_at "wp"
      walk_at "go"
      refine ⟨t, rfl, o2 t ht, by omega, ?_⟩
      walk_at "go"
      exact hP
    intro r hr
    have hr2 : updM μ r (.lst (l.map tmD)) r = some (.lst (l.map tmD)) := updM_same
    walk_at "go"
    refine ite_d (fun h => ?_) (fun h => ?_)
    · walk_at "go"
      intro p hp
      have pr : r ≠ p := fun z => by rw [← z, updM_same] at hp; cases hp
      walk_at "go"
      refine ⟨p, l, rfl, updM_same, seq_refR (by rw [updM_ne pr]; exact hr2), by omega, by omega, o2, fun _ => ?_, fun h => absurd o1 h⟩
      refine ice_n2 hp ?_
      walk_at "go"
      refine ite_f (by rw [List.length_map, List.length_cons, List.length_map]; simp) ?_
      walk_at "go"
      refine ⟨⟨r, _, rfl, hr2⟩, ?_⟩
      walk_at "go"
      refine ⟨r, _, rfl, hr2, ?_⟩
      walk_at "go"
      exact qw kq (upd_le (LeM.new hr) hr)
    · exact absurd rfl h
  | gr l =>
    rw [to_gr]
    rw [tm_gr] at kq
    rw [dp_gr] at hn
    obtain ⟨o1, o2⟩ := ok_gr.mp ok
    walk_at "go"
    refine ite_d (fun h => absurd h (by decide +kernel)) (fun _ => ?_)
    walk_at "go"
    refine ite_d (fun h => absurd h (by decide +kernel)) (fun _ => ?_)
    walk_at "go"
    rw [cut_tail]
    walk_at "go"
    refine lc_map tmD rfl (by omega) (fun t ht P hP => ?_) ?_
    · have := dps_mem ht
      walk_at "wp"
      walk_at "go"
      refine ⟨t, rfl, o2 t ht, by omega, ?_⟩
      walk_at "go"
      exact hP
    intro r hr
    have hr2 : updM μ r (.lst (l.map tmD)) r = some (.lst (l.map tmD)) := updM_same
    walk_at "go"
    refine ite_d (fun h => ?_) (fun h => ?_)
    · exact absurd h (by decide +kernel)
    · walk_at "go"
      intro p hp
      have pr : r ≠ p := fun z => by rw [← z, updM_same] at hp; cases hp
      walk_at "go"
      refine ⟨p, l, rfl, updM_same, seq_refR (by rw [updM_ne pr]; exact hr2), by omega, by omega, o2, fun _ => ?_, fun h => absurd o1 h⟩
      refine ice_n2 hp ?_
      walk_at "go"
      refine ite_f (by rw [List.length_map, List.length_cons, List.length_map]; simp) ?_
      walk_at "go"
      refine ⟨⟨r, _, rfl, hr2⟩, ?_⟩
      walk_at "go"
      refine ⟨r, _, rfl, hr2, ?_⟩
      walk_at "go"
      exact qw kq (upd_le (LeM.new hr) hr)
theorem cs__law_build (T : Txt K mg w) : ∀ n : Nat, (Cal P w K mg base (13 + n) "_law_build" ["_law_told_here"] [] (sp__law_build n)) := by
  intro n
  induction n with
  | zero => exact cal_vac T.d__law_build (fun _ _ _ _ _ _ us hl => match us, hl with | [_], _ => rfl) vac__law_build
  | succ n IH =>
    have ih__law_build := IH
    refine Cal.w (cal_of (k := 13 + n) T.d__law_build sc__law_build (fun ds μ Q E h => by obtain ⟨_, _, h, _⟩ := h; obtain ⟨_, rfl, _⟩ := h; rfl) (fun _ _ _ _ _ _ us hl => match us, hl with | [_], _ => rfl) (fun f Z cdv A outer s H _ E hr M hcd =>
        ⟨_, (ss_cons (s_if (t_cmp (o_eq hr.units) (d_ix (d_var 0) d_int) d_str)
      (ss_one (s_ret (d_makeI 0 (c_Level___init__ T) (by decide) dfl0 (hr.mono (by omega)) M (a_cons (d_ix (d_var 0) d_int) a_nil))))
      ss_nil)
      (ss_cons (s_if (t_cmp (o_eq hr.units) (d_ix (d_var 0) d_int) d_str)
      (ss_one (s_ret (d_makeI 1 (c_Called___init__ T) (by decide) dfl0 (hr.mono (by omega)) M (a_cons (d_ix (d_var 0) d_int) (a_cons (d_ix (d_var 0) d_int) a_nil)))))
      ss_nil)
      (ss_cons (s_lcM (i := 1) (own := [("_law_part", 3)]) rfl sc__law_build.nd (go_name (by decide)) rfl rfl (sw_true rfl rfl rfl (by decide +kernel)) (i_tup (d_slice (d_var 0) (po_s d_int) po_n)) (blkOk_by (N := N__law_build) (sc := defScope s__law_build) (by decide +kernel)) (fun _ _ _ _ _ => (g_name (i := 3) sc__law_build.nd)) (fun _ _ _ _ _ => ts_nil) (fun _ _ _ _ _ => (d_callX 0 ih__law_build (by decide) dfl0 (hr.mono (by omega)) (md_blk (K := K) (Z := Z) M.gd) (a_cons (d_var 3) a_nil))))
      (ss_cons (s_if (t_cmp (o_eq hr.units) (d_ix (d_var 0) d_int) d_str)
      (ss_one (s_set (i := 2) sc__law_build.nd (d_makeI 0 (c_Least___init__ T) (by decide) dfl0 (hr.mono (by omega)) M (a_cons (d_var 1) a_nil))))
      (ss_one (s_set (i := 2) sc__law_build.nd (d_makeI 0 (c_Greatest___init__ T) (by decide) dfl0 (hr.mono (by omega)) M (a_cons (d_var 1) a_nil)))))
      (ss_cons (s_if (t_cmp (o_ne hr.units) (d_callB c_len rfl T.b_len PySem.boot_len (a_cons (d_var 1) a_nil)) (d_op o_sub (d_callB c_len rfl T.b_len PySem.boot_len (a_cons (d_var 0) a_nil)) d_int))
      (ss_one (s_ret d_non))
      ss_nil)
      (ss_cons (s_expr (d_lmM0 PySem.F.slot_list_clear PySem.F.type_list_clear mt_clear sm_clear (d_var 1)))
      (ss_one (s_ret (d_var 2)))))))))⟩)
      (fun ds μ Q E h => ?_) (rd := rd__law_build n))
    obtain ⟨Q, E, h, rfl, rfl⟩ := h
    obtain ⟨b0, e, h⟩ := id h
    subst e
    exact read__law_build n b0 μ Q E (by assumption)
theorem c__law_build (T : Txt K mg w) : Cal P w K mg base 22 "_law_build" ["_law_told_here"] [] (sp__law_build 9) := (cs__law_build T 9)
/-! ### rank: 0 call, 1 when, 2 town, 3 place -/
abbrev N_rank : List Str := ["call", "when", "town", "place"]
theorem sc_rank : FnScope N_rank ["call"] (defScope s_rank) := ⟨rfl, rfl, rfl, by decide +kernel, rfl, by decide +kernel, by decide +kernel⟩
def sp_rank : DSp := Sp1 fun a μ Q _ => ∃ c : Cl, CdOk c ∧ a = cdT c ∧ Q (rkD c) μ
instance st_sp_rank {a : D} {μ : Mem} {Q : QM} {u3 : DX} : Step (sp_rank [a] μ Q u3) (∃ c : Cl, CdOk c ∧ a = cdT c ∧ Q (rkD c) μ) := ⟨fun h => ⟨_, rfl, h⟩⟩
def rd_rank (E : DX) : DS := (dSeq (dAsg (dVar 0) (gdTup 2 (gdCons (gdName 1) (gdCons (gdName 2) gdNil))))
  (dSeq (dSet 3 (dTup (dCons (dC (.int 2)) (dCons (dVar 1) dNil))))
  (dSeq (dIfS (dTest (dOp rdEq (dVar 1) (dC (.str "made")))) (dSet 3 (dTup (dCons (dC (.int 0)) (dCons (dC (.int 0)) dNil)))) (dIfS (dTest (dOp rdEq (dVar 1) (dC (.str "paid")))) (dSet 3 (dTup (dCons (dC (.int 1)) (dCons (dC (.int 0)) dNil)))) dNext))
  (dSeq (dIfS (dTest (dOp rdIsN (dVar 2) (dC .non))) (dRet (dTup (dCons (dVar 3) (dCons (dC (.int 0)) (dCons (dC (.str "")) dNil))))) dNext)
  (dRet (dTup (dCons (dVar 3) (dCons (dC (.int 1)) (dCons (dVar 2) dNil)))))))))
theorem read_rank : ∀ (a0 : D) (μ : Mem) (Q : QM) (E : DX), sp_rank [a0] μ Q E → rd_rank E ⟨fun _ μ2 => Q .non μ2, Q, fun _ _ => False, fun _ _ => False⟩ [.val a0, .no, .no, .no] μ := by
  rintro _ μ Q E ⟨_, e, ⟨w, t⟩, ok, rfl, kq⟩
  cases e
  unfold rd_rank
  obtain ⟨hw, ht⟩ := cd_wh ok
  have kq' : ∀ x y : Int, (rkI w).1 = x → (rkI w).2 = y → Q (.tup [.tup [.int x, .int y], .int (rkT t).1, .str (rkT t).2]) μ := fun x y h1 h2 => by
    subst h1 h2
    exact kq
  walk_at "go"
  refine eq_pl (pl_wh w) (pl_wh .made) (by decide) (by decide) (eq_wh w .made) ?_
  walk_at "go"
  refine ite_d (fun h => ?_) (fun h => ?_)
  · subst h
    have kq' := kq' 0 0 rfl rfl
    walk_at "go"
    cases t with
    | none =>
      refine ite_t rfl ?_
      walk_at "go"
      exact kq'
    | some z =>
      refine ite_f rfl ?_
      walk_at "go"
      exact kq'
  · walk_at "go"
    refine eq_pl (pl_wh w) (pl_wh .paid) (by decide) (by decide) (eq_wh w .paid) ?_
    walk_at "go"
    refine ite_d (fun h => ?_) (fun h => ?_)
    · subst h
      have kq' := kq' 1 0 rfl rfl
      walk_at "go"
      cases t with
      | none =>
        refine ite_t rfl ?_
        walk_at "go"
        exact kq'
      | some z =>
        refine ite_f rfl ?_
        walk_at "go"
        exact kq'
    · cases w with
      | made => exact absurd rfl (by assumption)
      | paid => exact absurd rfl (by assumption)
      | day n =>
        have kq' := kq' 2 n rfl rfl
        walk_at "go"
        cases t with
        | none =>
          refine ite_t rfl ?_
          walk_at "go"
          exact kq'
        | some z =>
          refine ite_f rfl ?_
          walk_at "go"
          exact kq'
theorem c_rank (T : Txt K mg w) : Cal P w K mg base 1 "rank" ["call"] [] sp_rank := by
  refine cal_of T.d_rank sc_rank (fun ds μ Q E h => by obtain ⟨_, rfl, _⟩ := h; rfl) (fun _ _ _ _ _ _ us hl => match us, hl with | [_], _ => rfl) (fun f Z cdv A outer s H _ E hr M hcd =>
      ⟨_, (ss_cons (s_asg (d_var 0) (g_tupP rfl (gs_consP (g_name (i := 1) sc_rank.nd) (gs_consP (g_name (i := 2) sc_rank.nd) gs_nil))))
      (ss_cons (s_set (i := 3) sc_rank.nd (d_tup (a_cons d_int (a_cons (d_var 1) a_nil))))
      (ss_cons (s_if (t_cmp (o_eq hr.units) (d_var 1) d_str)
      (ss_one (s_set (i := 3) sc_rank.nd (d_tup (a_cons d_int (a_cons d_int a_nil)))))
      (ss_one (s_if (t_cmp (o_eq hr.units) (d_var 1) d_str)
      (ss_one (s_set (i := 3) sc_rank.nd (d_tup (a_cons d_int (a_cons d_int a_nil)))))
      ss_nil)))
      (ss_cons (s_if (t_cmp o_isN (d_var 2) d_non)
      (ss_one (s_ret (d_tup (a_cons (d_var 3) (a_cons d_int (a_cons d_str a_nil))))))
      ss_nil)
      (ss_one (s_ret (d_tup (a_cons (d_var 3) (a_cons d_int (a_cons (d_var 2) a_nil))))))))))⟩)
    (fun ds μ Q E h => ?_) (rd := rd_rank)
  obtain ⟨b0, e, h⟩ := id h
  subst e
  exact read_rank b0 μ Q E (by assumption)
/-! ### ordered: 0 found, 1 calls, 2 call -/
abbrev N_ordered : List Str := ["found", "calls", "call"]
theorem sc_ordered : FnScope N_ordered ["found"] (defScope s_ordered) := ⟨rfl, rfl, rfl, by decide +kernel, rfl, by decide +kernel, by decide +kernel⟩
def sp_ordered : DSp := Sp1 fun a μ Q E => ∃ l : List Cl, a = .lst (l.map cdT) ∧ (∀ c ∈ l, CdOk c) ∧ l.length ≤ 1000 ∧ if (ords l).length ≤ 6 then Q (.lst ((ords l).map cdT)) μ else E "TooMany" none μ
instance st_sp_ordered {a : D} {μ : Mem} {Q : QM} {E : DX} : Step (sp_ordered [a] μ Q E) (∃ l : List Cl, a = .lst (l.map cdT) ∧ (∀ c ∈ l, CdOk c) ∧ l.length ≤ 1000 ∧ if (ords l).length ≤ 6 then Q (.lst ((ords l).map cdT)) μ else E "TooMany" none μ) := ⟨fun h => ⟨_, rfl, h⟩⟩
def rd_ordered (E : DX) : DS := (dSeq (dOwn 1 (fLst dNil))
  (dSeq (dFor (diAny (dSortF sp_rank (dVar 0))) (gdName 2) (dIfS (dOr (dOT 1 (dTest (dEqO false 1 (dLst dNil))) (dTest (dOp rdEq (dVar 1) (dLst dNil)))) (dTest (dOp rdNe (dOO 1 (dIxO 1 (dNeg (dC (.int 1)))) (dOp rdIx (dVar 1) (dNeg (dC (.int 1))))) (dVar 2)))) (dApp 1 (dVar 2)) dNext))
  (dSeq (dIfS (dTest (dOp rdGt (dOO 1 (dLenO 1) (dCB rdLen (dCons (dVar 1) dNil))) (dC (.int 6)))) (dRaise (XDE E) "TooMany") dNext)
  (dRet (dOO 1 (dVarF 1) (dVar 1))))))
theorem read_ordered : ∀ (a0 : D) (μ : Mem) (Q : QM) (E : DX), sp_ordered [a0] μ Q E → rd_ordered E ⟨fun _ μ2 => Q .non μ2, Q, fun _ _ => False, fun _ _ => False⟩ [.val a0, .no, .no] μ := by
  rintro _ μ Q E ⟨_, e, l, rfl, ok, hl, kq⟩
  cases e
  unfold rd_ordered
  walk_at "go"
  refine sortF_gen (row := cdT) (key := rkD) (pk := rkey) (l := l) rfl (fun c hc R h => ⟨_, rfl, c, ok c hc, rfl, h⟩) (fun c hc => rfl) (PySem.W.AllAlike.of fun _ _ => by simp [PySem.W.alike, PySem.W.alikeAll, rkey]) (PySem.W.Sortable.tuples fun _ => ⟨_, _, rfl⟩) (fun _ _ => by simp [PyData.depth, PyData.depthAll, rkey]) (Nat.le_trans hl (by decide)) ?_
  walk_at "go"
  have wl : (l.mergeSort (PySem.W.dataLe false rkey)).length = l.length := List.length_mergeSort _
  have wo : ∀ c ∈ l.mergeSort (PySem.W.dataLe false rkey), CdOk c := fun c hc => ok c (List.mem_mergeSort.mp hc)
  refine for_pg (fun pre δ μ' => μ' = μ ∧ δ = [.val (.lst (l.map cdT)), .own (.lst ((pre.foldl ddS []).map cdT)), .no]) (fun _ _ _ _ => trivial) (wn ⟨rfl, rfl⟩ (by simp [Le])) (fun pre x post δ μ' e w => ?_) (fun δ μ' w => ?_)
  · obtain ⟨rfl, rfl⟩ := w
    have hx := wo x (by rw [e]; simp)
    obtain ⟨d1, d2⟩ := dd_sub pre []
    have pl : pre.length ≤ 1000 := by have := congrArg List.length e; simp at this; omega
    have yo : ∀ c ∈ pre.foldl ddS [], CdOk c := fun c hc => wo c (by rw [e]; exact List.mem_append_left _ ((d1 c hc).resolve_left fun z => nomatch z))
    rw [List.foldl_append, List.foldl_cons, List.foldl_nil]
    generalize pre.foldl ddS [] = ys at d2 yo
    have dl : ys.length ≤ 1000 := by simp at d2; omega
    walk_at "go"
    refine own_eq_nil (pl_lst (pls_cd yo)) (by decide) ?_
    walk_at "go"
    refine ite_d (fun h => ?_) (fun h => ?_)
    · subst h
      walk_at "go"
      rw [show ddS [] x = [x] from by unfold ddS; rw [if_neg (by simp)]; rfl]
      exact ⟨_, rfl, by decide, wn ⟨rfl, rfl⟩ (by simp [Le])⟩
    · walk_at "go"
      obtain ⟨q, y, rfl⟩ : ∃ q y, ys = q ++ [y] := ⟨ys.dropLast, ys.getLast h, (List.dropLast_concat_getLast h).symm⟩
      refine i_ixL (d := cdT y) (atI_last (by rw [List.map_append]; simp)) ?_
      walk_at "go"
      refine ne_pl (pl_cd (yo y (by simp))) (pl_cd hx) (by decide) (by decide) (eq_cd y x) ?_
      walk_at "go"
      refine ite_nd (fun h2 => ?_) (fun h2 => ?_)
      · walk_at "go"
        refine ⟨_, rfl, by rw [List.length_map]; exact Nat.lt_of_le_of_lt dl (by decide), ?_⟩
        have e2 : ddS (q ++ [y]) x = q ++ [y] ++ [x] := by
          unfold ddS
          rw [if_neg (by simp; exact h2)]
        rw [e2, show List.map cdT (q ++ [y]) ++ [cdT x] = List.map cdT (q ++ [y] ++ [x]) from by simp]
        exact wn ⟨rfl, rfl⟩ (by simp [Le])
      · subst h2
        have e2 : ddS (q ++ [y]) y = q ++ [y] := by
          unfold ddS
          rw [if_pos (by simp)]
        rw [e2]
        walk_at "go"
        exact wn ⟨rfl, rfl⟩ (by simp [Le])
  · obtain ⟨rfl, rfl⟩ := w
    obtain ⟨d1, d2⟩ := dd_sub (l.mergeSort (PySem.W.dataLe false rkey)) []
    rw [wl] at d2
    change (ords l).length ≤ _ at d2
    walk_at "go"
    change if decide (6 < (((ords l).map cdT).length : Int)) = true then _ else _
    rw [List.length_map]
    refine ite_d (fun h => ?_) (fun h => ?_)
    · rw [if_neg (by omega)] at kq
      walk_at "go"
      exact kq
    · rw [if_pos (by omega)] at kq
      walk_at "go"
      exact kq
theorem c_ordered (T : Txt K mg w) : Cal P w K mg base 4 "ordered" ["found"] [] sp_ordered := by
  refine cal_of T.d_ordered sc_ordered (fun ds μ Q E h => by obtain ⟨_, rfl, _⟩ := h; rfl) (fun _ _ _ _ _ _ us hl => match us, hl with | [_], _ => rfl) (fun f Z cdv A outer s H _ E hr M hcd =>
      ⟨_, (ss_cons (s_own (i := 1) sc_ordered.nd (f_lst a_nil))
      (ss_cons (s_for M.ow rfl (i_any (d_sortF (c_rank T) (d_var 0) T.b_sorted M.gd (hr.mono (by decide)))) (g_name (i := 2) sc_ordered.nd)
      (ss_one (s_if (t_w (w_or (t_oo 1 (t_eqO 1 hr.units (d_lst a_nil)) (t_cmp (o_eq hr.units) (d_var 1) (d_lst a_nil))) (w_or1 (t_cmp (o_ne hr.units) (d_oo 1 (d_ixO 1 (d_neg d_int)) (d_ix (d_var 1) (d_neg d_int))) (d_var 2)))))
      (ss_one (s_appP 1 (d_var 2)))
      ss_nil)))
      (ss_cons (s_if (t_cmp o_gt (d_oo 1 (d_lenO 1 rfl T.b_len) (d_callB c_len rfl T.b_len PySem.boot_len (a_cons (d_var 1) a_nil))) (d_globI rfl T.g_MOST_CALLS.choose_spec ⟨_, rfl⟩))
      (ss_one (s_raise M T.ec_TooMany))
      ss_nil)
      (ss_one (s_ret (d_oo 1 (d_varF 1) (d_var 1)))))))⟩)
    (fun ds μ Q E h => ?_) (rd := rd_ordered)
  obtain ⟨b0, e, h⟩ := id h
  subst e
  exact read_ordered b0 μ Q E (by assumption)
/-! ### calls_in: 0 term, 1 found, 2 inner -/
abbrev N_calls_in : List Str := ["term", "found", "inner"]
theorem sc_calls_in : FnScope N_calls_in ["term"] (defScope s_calls_in) := ⟨rfl, rfl, rfl, by decide +kernel, rfl, by decide +kernel, by decide +kernel⟩
def sp_calls_in (n : Nat) : DSp := Sp1 fun a μ Q _ => ∃ t : Tm, a = tmD t ∧ okT t ∧ dp t ≤ n ∧ Q (.lst ((cls t).map cdT)) μ
theorem vac_calls_in : ∀ ds μ Q E, ¬ sp_calls_in 0 ds μ Q E := fun _ _ _ _ ⟨_, _, t, _, _, h, _⟩ => by have := dp_pos t; omega
instance st_sp_calls_in {n : Nat} {a : D} {μ : Mem} {Q : QM} {u3 : DX} : Step (sp_calls_in n [a] μ Q u3) (∃ t : Tm, a = tmD t ∧ okT t ∧ dp t ≤ n ∧ Q (.lst ((cls t).map cdT)) μ) := ⟨fun h => ⟨_, rfl, h⟩⟩
def rd_calls_in (n : Nat) (E : DX) : DS := (dSeq (dIfS (dTest (dIsC exs objs "Level" (dVar 0))) (dRet (dLst dNil)) dNext)
  (dSeq (dIfS (dTest (dIsC exs objs "Called" (dVar 0))) (dRet (dLst (dCons (dTup (dCons (dFld "Called" "when" (dVar 0)) (dCons (dFld "Called" "town" (dVar 0)) dNil))) dNil))) dNext)
  (dSeq (dSet 1 (dLst dNil))
  (dSeq (dFor (diTup (dOrE (dFld "Least" "terms" (dVar 0)) (dFld "Greatest" "terms" (dVar 0)))) (gdName 2) (dSet 1 (dOp rdAdd (dVar 1) (dCallX (sp_calls_in n) [] (XDE E) (dCons (dVar 2) dNil)))))
  (dRet (dVar 1))))))
theorem read_calls_in : ∀ (n : Nat) (a0 : D) (μ : Mem) (Q : QM) (E : DX), sp_calls_in (n + 1) [a0] μ Q E → rd_calls_in n E ⟨fun _ μ2 => Q .non μ2, Q, fun _ _ => False, fun _ _ => False⟩ [.val a0, .no, .no] μ := by
  rintro n _ μ Q E ⟨_, e, t, rfl, ok, hd, kq⟩
  cases e
  unfold rd_calls_in
  have loop : ∀ (l : List Tm) (C : Str), (∀ t ∈ l, okT t ∧ dp t ≤ n) → l.length ≤ 8 → Q (.lst (((l.map cls).flatten).map cdT)) μ → ForG (l.map tmD) (fun _ => True) (gdName 2) (dSet 1 (dOp rdAdd (dVar 1) (dCallX (sp_calls_in n) [] (XDE E) (dCons (dVar 2) dNil)))) (dRet (dVar 1) { nx := fun x μ2 => Q D.non μ2, rt := Q }) Q [.val (.obj C [("terms", .tup (l.map tmD))]), .val (.lst []), .no] μ := fun l C hl h8 q => by
    refine for_pg (fun pre δ μ' => μ' = μ ∧ δ = [.val (.obj C [("terms", .tup (l.map tmD))]), .val (.lst (((pre.map cls).flatten).map cdT)), .no]) (fun _ _ _ _ => trivial) (wn ⟨rfl, rfl⟩ (by simp [Le])) (fun pre x post δ μ' e w => ?_) (fun δ μ' w => ?_)
    · obtain ⟨rfl, rfl⟩ := w
      obtain ⟨o1, o2⟩ := hl x (by rw [e]; simp)
      have ln : ∀ m : List Tm, (∀ t ∈ m, okT t) → ((m.map cls).flatten).length ≤ m.length * 60 := by
        intro m
        induction m with
        | nil => intro _; exact Nat.zero_le _
        | cons a m ih =>
          intro h
          have := cls_len (h a List.mem_cons_self)
          have := ih fun t ht => h t (List.mem_cons_of_mem _ ht)
          rw [List.map_cons, List.flatten_cons, List.length_append, List.length_cons]
          omega
      have l1 := ln pre fun t ht => (hl t (by rw [e]; simp [ht])).1
      have l2 := cls_len o1
      have l3 : pre.length ≤ 8 := by rw [e] at h8; simp at h8; omega
      walk_at "go"
      refine ⟨x, rfl, o1, o2, ?_⟩
      walk_at "go"
      refine i_addL (sz_of (by simp only [List.length_append, List.length_map]; omega)) ?_
      walk_at "go"
      rw [← List.map_append, show (pre.map cls).flatten ++ cls x = ((pre ++ [x]).map cls).flatten from by simp]
      exact wn ⟨rfl, rfl⟩ (by simp [Le])
    · obtain ⟨rfl, rfl⟩ := w
      walk_at "go"
      exact q
  cases t with
  | lv i =>
    rw [tm_lv]
    walk_at "go"
    refine isC_obj (b := true) (by decide +kernel) ?_
    walk_at "go"
    rw [cls_lv] at kq
    exact kq
  | cd w t =>
    rw [tm_cd]
    walk_at "go"
    refine isC_obj (b := false) (by decide +kernel) ?_
    walk_at "go"
    refine isC_obj (b := true) (by decide +kernel) ?_
    walk_at "go"
    rw [cls_cd] at kq
    exact kq
  | ls l =>
    obtain ⟨⟨o1, o2, o3, o4⟩, o5⟩ := ok_ls.mp ok
    rw [tm_ls]
    rw [dp_ls] at hd
    rw [cls_ls] at kq
    walk_at "go"
    refine isC_obj (b := false) (by decide +kernel) ?_
    walk_at "go"
    refine isC_obj (b := false) (by decide +kernel) ?_
    walk_at "go"
    refine .inl ?_
    walk_at "go"
    exact loop l _ (fun t ht => ⟨o5 t ht, by have := dps_mem ht; omega⟩) o2 kq
  | gr l =>
    obtain ⟨⟨o1, o2, o3, o4⟩, o5⟩ := ok_gr.mp ok
    rw [tm_gr]
    rw [dp_gr] at hd
    rw [cls_gr] at kq
    walk_at "go"
    refine isC_obj (b := false) (by decide +kernel) ?_
    walk_at "go"
    refine isC_obj (b := false) (by decide +kernel) ?_
    walk_at "go"
    refine .inr ?_
    walk_at "go"
    exact loop l _ (fun t ht => ⟨o5 t ht, by have := dps_mem ht; omega⟩) o2 kq
theorem cs_calls_in (T : Txt K mg w) : ∀ n : Nat, (Cal P w K mg base (1 + n) "calls_in" ["term"] [] (sp_calls_in n)) := by
  intro n
  induction n with
  | zero => exact cal_vac T.d_calls_in (fun _ _ _ _ _ _ us hl => match us, hl with | [_], _ => rfl) vac_calls_in
  | succ n IH =>
    have ih_calls_in := IH
    refine cal_of (k := 1 + n) T.d_calls_in sc_calls_in (fun ds μ Q E h => by obtain ⟨_, rfl, _⟩ := h; rfl) (fun _ _ _ _ _ _ us hl => match us, hl with | [_], _ => rfl) (fun f Z cdv A outer s H _ E hr M hcd =>
        ⟨_, (ss_cons (s_if (t_valP (d_isC T.cs T.gc_Level T.b_isinstance (d_var 0)))
      (ss_one (s_ret (d_lst a_nil)))
      ss_nil)
      (ss_cons (s_if (t_valP (d_isC T.cs T.gc_Called T.b_isinstance (d_var 0)))
      (ss_one (s_ret (d_lst (a_cons (d_tup (a_cons (d_fld T.cl_Called T.na_Called_when (d_var 0)) (a_cons (d_fld T.cl_Called T.na_Called_town (d_var 0)) a_nil))) a_nil))))
      ss_nil)
      (ss_cons (s_set (i := 1) sc_calls_in.nd (d_lst a_nil))
      (ss_cons (s_for M.ow rfl (i_tup (d_orE (d_fld T.cl_Least T.na_Least_terms (d_var 0)) (d_fld T.cl_Greatest T.na_Greatest_terms (d_var 0)))) (g_name (i := 2) sc_calls_in.nd)
      (ss_one (s_set (i := 1) sc_calls_in.nd (d_op o_add (d_var 1) (d_callX 0 ih_calls_in (by decide) dfl0 (hr.mono (by omega)) M (a_cons (d_var 2) a_nil))))))
      (ss_one (s_ret (d_var 1)))))))⟩)
      (fun ds μ Q E h => ?_) (rd := rd_calls_in n)
    obtain ⟨b0, e, h⟩ := id h
    subst e
    exact read_calls_in n b0 μ Q E (by assumption)
theorem c_calls_in (T : Txt K mg w) : Cal P w K mg base 10 "calls_in" ["term"] [] (sp_calls_in 9) := (cs_calls_in T 9)
/-! ### sets_of: 0 many, 1 found, 2 number, 3 one -/
abbrev N_sets_of : List Str := ["many", "found", "number", "one"]
theorem sc_sets_of : FnScope N_sets_of ["many"] (defScope s_sets_of) := ⟨rfl, rfl, rfl, by decide +kernel, rfl, by decide +kernel, by decide +kernel⟩
def sp_sets_of : DSp := Sp1 fun a μ Q E => ∃ m : Nat, a = .int m ∧ m ≤ 6 ∧ Q (.lst ((sbs m).map tpD)) μ
instance st_sp_sets_of {a : D} {μ : Mem} {Q : QM} {E : DX} : Step (sp_sets_of [a] μ Q E) (∃ m : Nat, a = .int m ∧ m ≤ 6 ∧ Q (.lst ((sbs m).map tpD)) μ) := ⟨fun h => ⟨_, rfl, h⟩⟩
def rd_sets_of (E : DX) : DS := (dSeq (dSet 1 (dLst (dCons (dTup dNil) dNil)))
  (dSeq (dFor (diRng1 (dCons (dVar 0) dNil)) (gdName 2) (dSet 1 (dOp rdAdd (dVar 1) (dIce (fLc (diAny (dVar 1)) (gdName 3) dYes (dOp rdAdd (dVar 3) (dTup (dCons (dVar 2) dNil))) [3])))))
  (dRet (dSortK (KTup KLen KTi) (dVar 1)))))
theorem read_sets_of : ∀ (a0 : D) (μ : Mem) (Q : QM) (E : DX), sp_sets_of [a0] μ Q E → rd_sets_of E ⟨fun _ μ2 => Q .non μ2, Q, fun _ _ => False, fun _ _ => False⟩ [.val a0, .no, .no, .no] μ := by
  rintro _ μ Q E ⟨_, e, m, rfl, hm, kq⟩
  cases e
  unfold rd_sets_of
  walk_at "go"
  refine for_rng (fun i δ μ' => μ' = μ ∧ δ = [.val (.int m), .val (.lst ((subs i).map tpD)), .no, .no]) (wn ⟨rfl, rfl⟩ (by simp [Le, subs])) (fun i δ μ' hi w => ?_) (fun δ μ' w => ?_)
  · obtain ⟨rfl, rfl⟩ := w
    have hi : i < m := by omega
    have sm : (subs i).length ≤ 64 := by
      rw [subs_many]
      calc 2 ^ i ≤ 2 ^ 6 := Nat.pow_le_pow_right (by decide) (by omega)
        _ = 64 := by decide
    rw [Int.zero_add]
    walk_at "go"
    refine lc_map (fun p => tpD (p ++ [i])) rfl (by omega) (fun p hp P hP => ?_) ?_
    · have := subs_len hp
      walk_at "wp"
      walk_at "go"
      refine i_addT (by simp; exact Nat.le_trans (show p.length + 1 ≤ 100 by omega) (by decide)) ?_
      rw [show (p.map fun i : Nat => (i : Int)).map Dl.D.int ++ [Dl.D.int (i : Nat)] = ((p ++ [i]).map fun i : Nat => (i : Int)).map Dl.D.int from by simp]
      exact ⟨rfl, hP⟩
    walk_at "go"
    refine i_addL (sz_of (by simp only [List.length_map]; omega)) ?_
    rw [show (subs i).map tpD ++ (subs i).map (fun p => tpD (p ++ [i])) = (subs (i + 1)).map tpD from by rw [subs, List.map_append, List.map_map]; rfl]
    walk_at "go"
    exact wn ⟨rfl, rfl⟩ (by simp [Le])
  · obtain ⟨rfl, rfl⟩ := w
    have sm : (subs m).length ≤ 64 := by
      rw [subs_many]
      calc 2 ^ m ≤ 2 ^ 6 := Nat.pow_le_pow_right (by decide) (by omega)
        _ = 64 := by decide
    walk_at "go"
    refine sort_gen (row := tpD) (key := skey) (l := subs m) rfl (fun p hp => ⟨_, _, rfl, ⟨_, rfl, by simp⟩, ⟨_, rfl, rfl⟩⟩) (PySem.W.AllAlike.of fun p q => skey_alike p q) (PySem.W.Sortable.tuples fun _ => ⟨_, _, rfl⟩) (fun p _ => ?_) (Nat.le_trans sm (by decide)) ?_
    · exact Nat.le_trans (skey_depth p) (by decide)
    walk_at "go"
    exact kq
theorem c_sets_of (T : Txt K mg w) : Cal P w K mg base 1 "sets_of" ["many"] [] sp_sets_of := by
  refine cal_of T.d_sets_of sc_sets_of (fun ds μ Q E h => by obtain ⟨_, rfl, _⟩ := h; rfl) (fun _ _ _ _ _ _ us hl => match us, hl with | [_], _ => rfl) (fun f Z cdv A outer s H _ E hr M hcd =>
      ⟨_, (ss_cons (s_set (i := 1) sc_sets_of.nd (d_lst (a_cons (d_tup a_nil) a_nil)))
      (ss_cons (s_for M.ow rfl (i_range1 rfl T.b_range (a_cons (d_var 0) a_nil)) (g_name (i := 2) sc_sets_of.nd)
      (ss_one (s_set (i := 1) sc_sets_of.nd (d_op o_add (d_var 1) (d_ice (f_lc (own := [("one", 3)]) rfl sc_sets_of.nd (go_name (by decide)) (i_any (d_var 1)) (blkOk_by (N := N_sets_of) (sc := defScope s_sets_of) (by decide +kernel)) (fun _ _ _ _ _ => (g_name (i := 3) sc_sets_of.nd)) (fun _ _ _ _ _ => ts_nil) (fun _ _ _ _ _ => (d_op o_add (d_var 3) (d_tup (a_cons (d_var 2) a_nil))))))))))
      (ss_one (s_ret (d_sortK rfl (d_var 1) T.b_sorted (lamK_of T.lb T.gc___builtins__ hcd) ⟨rfl, rfl, rfl, rfl, by decide +kernel, by decide +kernel⟩ (key_tup (key_len T.b_len) key_ti) hr)))))⟩)
    (fun ds μ Q E h => ?_) (rd := rd_sets_of)
  obtain ⟨b0, e, h⟩ := id h
  subst e
  exact read_sets_of b0 μ Q E (by assumption)
/-! ### strength: 0 term, 1 chosen, 2 found, 3 inner -/
abbrev N_strength : List Str := ["term", "chosen", "found", "inner"]
theorem sc_strength : FnScope N_strength ["term", "chosen"] (defScope s_strength) := ⟨rfl, rfl, rfl, by decide +kernel, rfl, by decide +kernel, by decide +kernel⟩
def sp_strength (n : Nat) : DSp := Sp2 fun a b μ Q _ => ∃ (t : Tm) (S : List Cl), a = tmD t ∧ okT t ∧ dp t ≤ n ∧ (b = .tup (S.map cdT) ∨ b = .lst (S.map cdT)) ∧ (∀ c ∈ S, CdOk c) ∧ S.length ≤ 6 ∧ Q (.int (sg S t)) μ
theorem vac_strength : ∀ ds μ Q E, ¬ sp_strength 0 ds μ Q E := fun _ _ _ _ ⟨_, _, _, t, _, _, _, h, _⟩ => by have := dp_pos t; omega
instance st_sp_strength {n : Nat} {a b : D} {μ : Mem} {Q : QM} {u4 : DX} : Step (sp_strength n [a, b] μ Q u4) (∃ (t : Tm) (S : List Cl), a = tmD t ∧ okT t ∧ dp t ≤ n ∧ (b = .tup (S.map cdT) ∨ b = .lst (S.map cdT)) ∧ (∀ c ∈ S, CdOk c) ∧ S.length ≤ 6 ∧ Q (.int (sg S t)) μ) := ⟨fun h => ⟨_, _, rfl, h⟩⟩
def rd_strength (n : Nat) (E : DX) : DS := (dSeq (dIfS (dTest (dIsC exs objs "Level" (dVar 0))) (dRet (dFld "Level" "level" (dVar 0))) dNext)
  (dSeq (dIfS (dTest (dIsC exs objs "Called" (dVar 0))) (dRet (dOp rdMul (dC (.int 1000000)) (dCB rdInt (dCons (dOp (rdInE false) (dTup (dCons (dFld "Called" "when" (dVar 0)) (dCons (dFld "Called" "town" (dVar 0)) dNil))) (dVar 1)) dNil)))) dNext)
  (dSeq (dSet 2 (dIce (fLc (diTup (dOrE (dFld "Least" "terms" (dVar 0)) (dFld "Greatest" "terms" (dVar 0)))) (gdName 3) dYes (dCallX (sp_strength n) [] XD0 (dCons (dVar 3) (dCons (dVar 1) dNil))) [3])))
  (dSeq (dIfS (dTest (dIsC exs objs "Least" (dVar 0))) (dRet (dCB rdMinL (dCons (dVar 2) dNil))) dNext)
  (dRet (dCB rdMaxL (dCons (dVar 2) dNil)))))))
theorem read_strength : ∀ (n : Nat) (a0 a1 : D) (μ : Mem) (Q : QM) (E : DX), sp_strength (n + 1) [a0, a1] μ Q E → rd_strength n E ⟨fun _ μ2 => Q .non μ2, Q, fun _ _ => False, fun _ _ => False⟩ [.val a0, .val a1, .no, .no] μ := by
  rintro n _ _ μ Q E ⟨_, _, e, t, S, rfl, ok, hd, hb, So, Sl, kq⟩
  cases e
  unfold rd_strength
  cases t with
  | lv i =>
    rw [tm_lv]
    walk_at "go"
    refine isC_obj (b := true) (by decide +kernel) ?_
    walk_at "go"
    rw [sg_lv] at kq
    exact kq
  | cd w t =>
    rw [tm_cd]
    rw [sg_cd] at kq
    walk_at "go"
    refine isC_obj (b := false) (by decide +kernel) ?_
    walk_at "go"
    refine isC_obj (b := true) (by decide +kernel) ?_
    walk_at "go"
    refine in_plE (l := S.map cdT) (by rcases hb with rfl | rfl; exact .inr rfl; exact .inl rfl) (pl_cd (c := (w, t)) ok) (pl_lst (pls_cd So)) (by decide) (by decide) (anyD_map (f := cdT) (a := (w, t)) fun b _ => eq_cd b (w, t)) ?_
    walk_at "go"
    by_cases h : (w, t) ∈ S
    · rw [if_pos h] at kq
      simp only [h, decide_true, Bool.false_eq_true, if_false, if_true]
      exact kq
    · rw [if_neg h] at kq
      simp only [h, decide_false, Bool.false_eq_true, if_false]
      exact kq
  | ls l =>
    obtain ⟨⟨o1, o2, o3, o4⟩, o5⟩ := ok_ls.mp ok
    rw [tm_ls]
    rw [dp_ls] at hd
    rw [sg_ls] at kq
    walk_at "go"
    refine isC_obj (b := false) (by decide +kernel) ?_
    walk_at "go"
    refine isC_obj (b := false) (by decide +kernel) ?_
    walk_at "go"
    refine .inl ?_
    walk_at "go"
    refine lc_map (fun t => .int (sg S t)) rfl (by omega) (fun t ht P hP => ?_) ?_
    · have := dps_mem ht
      walk_at "wp"
      walk_at "go"
      refine ⟨t, S, rfl, o5 t ht, by omega, hb, So, Sl, ?_⟩
      walk_at "go"
      exact hP
    walk_at "go"
    refine isC_obj (b := true) (by decide +kernel) ?_
    walk_at "go"
    rw [show (l.map fun t => D.int (sg S t)) = (l.map (sg S)).map D.int from by rw [List.map_map]; rfl]
    refine i_minL (ns := l.map (sg S)) rfl (by rw [List.length_map]; omega) fun M m1 m2 => ?_
    rw [is_minI m1 m2]
    exact kq
  | gr l =>
    obtain ⟨⟨o1, o2, o3, o4⟩, o5⟩ := ok_gr.mp ok
    rw [tm_gr]
    rw [dp_gr] at hd
    rw [sg_gr] at kq
    walk_at "go"
    refine isC_obj (b := false) (by decide +kernel) ?_
    walk_at "go"
    refine isC_obj (b := false) (by decide +kernel) ?_
    walk_at "go"
    refine .inr ?_
    walk_at "go"
    refine lc_map (fun t => .int (sg S t)) rfl (by omega) (fun t ht P hP => ?_) ?_
    · have := dps_mem ht
      walk_at "wp"
      walk_at "go"
      refine ⟨t, S, rfl, o5 t ht, by omega, hb, So, Sl, ?_⟩
      walk_at "go"
      exact hP
    walk_at "go"
    refine isC_obj (b := false) (by decide +kernel) ?_
    walk_at "go"
    rw [show (l.map fun t => D.int (sg S t)) = (l.map (sg S)).map D.int from by rw [List.map_map]; rfl]
    refine i_maxL (ns := l.map (sg S)) rfl (by rw [List.length_map]; omega) fun M m1 m2 => ?_
    rw [is_maxI m1 m2]
    exact kq
theorem cs_strength (T : Txt K mg w) : ∀ n : Nat, (Cal P w K mg base (1 + n) "strength" ["term", "chosen"] [] (sp_strength n)) := by
  intro n
  induction n with
  | zero => exact cal_vac T.d_strength (fun _ _ _ _ _ _ us hl => match us, hl with | [_, _], _ => rfl) vac_strength
  | succ n IH =>
    have ih_strength := IH
    refine cal_of (k := 1 + n) T.d_strength sc_strength (fun ds μ Q E h => by obtain ⟨_, _, rfl, _⟩ := h; rfl) (fun _ _ _ _ _ _ us hl => match us, hl with | [_, _], _ => rfl) (fun f Z cdv A outer s H _ E hr M hcd =>
        ⟨_, (ss_cons (s_if (t_valP (d_isC T.cs T.gc_Level T.b_isinstance (d_var 0)))
      (ss_one (s_ret (d_fld T.cl_Level T.na_Level_level (d_var 0))))
      ss_nil)
      (ss_cons (s_if (t_valP (d_isC T.cs T.gc_Called T.b_isinstance (d_var 0)))
      (ss_one (s_ret (d_op o_mul (d_globI rfl T.g_TOP.choose_spec ⟨_, rfl⟩) (d_callTy c_int rfl T.b_int (by decide +kernel) (a_cons (d_cmp (o_inE (rm65 hr)) (d_tup (a_cons (d_fld T.cl_Called T.na_Called_when (d_var 0)) (a_cons (d_fld T.cl_Called T.na_Called_town (d_var 0)) a_nil))) (d_var 1)) a_nil)))))
      ss_nil)
      (ss_cons (s_lc (i := 2) (own := [("inner", 3)]) rfl sc_strength.nd (go_name (by decide)) rfl rfl (sw_true rfl rfl rfl (by decide +kernel)) (i_tup (d_orE (d_fld T.cl_Least T.na_Least_terms (d_var 0)) (d_fld T.cl_Greatest T.na_Greatest_terms (d_var 0)))) (blkOk_by (N := N_strength) (sc := defScope s_strength) (by decide +kernel)) (fun _ _ _ _ _ => (g_name (i := 3) sc_strength.nd)) (fun _ _ _ _ _ => ts_nil) (fun _ _ _ _ _ => (d_callX 0 ih_strength (by decide) dfl0 (hr.mono (by omega)) (md_blk (K := K) (Z := Z) M.gd) (a_cons (d_var 3) (a_cons (d_var 1) a_nil)))))
      (ss_cons (s_if (t_valP (d_isC T.cs T.gc_Least T.b_isinstance (d_var 0)))
      (ss_one (s_ret (d_callB (c_minL rfl) rfl T.b_min (by decide +kernel) (a_cons (d_var 2) a_nil))))
      ss_nil)
      (ss_one (s_ret (d_callB (c_maxL rfl) rfl T.b_max boot_max (a_cons (d_var 2) a_nil))))))))⟩)
      (fun ds μ Q E h => ?_) (rd := rd_strength n)
    obtain ⟨b0, b1, e, h⟩ := id h
    subst e
    exact read_strength n b0 b1 μ Q E (by assumption)
theorem c_strength (T : Txt K mg w) : Cal P w K mg base 10 "strength" ["term", "chosen"] [] (sp_strength 9) := (cs_strength T 9)
/-! ### form: 0 term, 1 calls, 2 found, 3 pairs, 4 places, 5 chosen, 6 lesser, 7 place, 8 k -/
abbrev N_form : List Str := ["term", "calls", "found", "pairs", "places", "chosen", "lesser", "place", "k"]
theorem sc_form : FnScope N_form ["term"] (defScope s_form) := ⟨rfl, rfl, rfl, by decide +kernel, rfl, by decide +kernel, by decide +kernel⟩
def sp_form : DSp := Sp1 fun a μ Q E => ∃ t : Tm, a = tmD t ∧ okT t ∧ (ords (cls t)).length ≤ 6 ∧ ∀ μ', LeM μ μ' → Q (.tup ((prs t).map prD)) μ'
instance st_sp_form {a : D} {μ : Mem} {Q : QM} {E : DX} : Step (sp_form [a] μ Q E) (∃ t : Tm, a = tmD t ∧ okT t ∧ (ords (cls t)).length ≤ 6 ∧ ∀ μ', LeM μ μ' → Q (.tup ((prs t).map prD)) μ') := ⟨fun h => ⟨_, rfl, h⟩⟩
def rd_form (E : DX) : DS := (dSeq (dSet 1 (dCallX sp_ordered [] (XDE E) (dCons (dCallX (sp_calls_in 9) [] (XDE E) (dCons (dVar 0) dNil)) dNil)))
  (dSeq (dSet 2 dDicTM)
  (dSeq (dOwn 3 (fLst dNil))
  (dSeq (dFor (diAny (dCallX sp_sets_of [] (XDE E) (dCons (dCB rdLen (dCons (dVar 1) dNil)) dNil))) (gdName 4) (dSeq (dSet 5 (dCB rdTup (dCons (dIce (fLc (diTup (dVar 4)) (gdName 7) dYes (dOp rdIx (dVar 1) (dVar 7)) [7])) dNil)))
  (dSeq (dPutT (dVar 2) (dVar 4) (dCallX (sp_strength 9) [] (XDE E) (dCons (dVar 0) (dCons (dVar 5) dNil))))
  (dSeq (dSet 6 (dIce (fLc (diRng1 (dCons (dCB rdLen (dCons (dVar 4) dNil)) dNil)) (gdName 8) dYes (dGetT (dVar 2) (dOp rdAdd (dSl (dVar 4) dNoPart (dPart (dVar 8))) (dSl (dVar 4) (dPart (dOp rdAdd (dVar 8) (dC (.int 1)))) dNoPart))) [8])))
  (dIfS (dTest (dOp rdGt (dGetT (dVar 2) (dVar 4)) (dMaxF (dCons (dVar 6) dNil) (dCons (dC (.int 0)) dNil)))) (dApp 3 (dTup (dCons (dVar 5) (dCons (dGetT (dVar 2) (dVar 4)) dNil)))) dNext)))))
  (dRet (dCB rdTup (dCons (dOO 3 (dVarF 3) (dVar 3)) dNil)))))))
theorem read_form : ∀ (a0 : D) (μ : Mem) (Q : QM) (E : DX), sp_form [a0] μ Q E → rd_form E ⟨fun _ μ2 => Q .non μ2, Q, fun _ _ => False, fun _ _ => False⟩ [.val a0, .no, .no, .no, .no, .no, .no, .no, .no] μ := by
  rintro _ μ Q E ⟨_, e, t, rfl, ok, h6, kq⟩
  cases e
  unfold rd_form
  walk_at "go"
  refine ⟨t, rfl, ok, by have := ok_dp ok; omega, ?_⟩
  walk_at "go"
  refine ⟨cls t, rfl, cls_ok t ok, by have := cls_len ok; omega, ?_⟩
  rw [if_pos h6]
  have co : ∀ c ∈ ords (cls t), CdOk c := fun c hc => cls_ok t ok c (((ords_spec (cls t)).2 c).mp hc)
  have hprs : prs t = ((sbs (ords (cls t)).length).filter (good t (ords (cls t)))).map fun p => (pick (ords (cls t)) p, sv t (ords (cls t)) p) := rfl
  rw [hprs] at kq
  generalize ords (cls t) = cs at h6 co kq
  walk_at "go"
  intro pf hpf
  walk_at "go"
  refine ⟨cs.length, by rw [List.length_map], h6, ?_⟩
  refine wk_le rfl fun G hG => ?_
  have many : (sbs cs.length).length ≤ 64 := by
    rw [sbs_many]
    calc 2 ^ cs.length ≤ 2 ^ 6 := Nat.pow_le_pow_right (by decide) h6
      _ = 64 := by decide
  refine for_pg (fun pre δ μ' => μ' = updM μ pf (.dcT (entF (sv t cs) pre)) ∧ δ = [.val (tmD t), .val (.lst (cs.map cdT)), .val (.ref pf), .own (.lst ((pre.filter (good t cs)).map fun p => prD (pick cs p, sv t cs p))), .no, .no, .no, .no, .no]) (fun _ _ _ _ => hG _ rfl) (wn ⟨rfl, rfl⟩ (by simp [Le])) (fun pre p post δ μ' e w => ?_) (fun δ μ' w => ?_)
  · obtain ⟨rfl, rfl⟩ := w
    have hp : p ∈ sbs cs.length := by rw [e]; simp
    have hs := mem_sbs.mp hp
    have p6 : p.length ≤ 6 := by have := hs.length_le; simp at this; omega
    have plt : ∀ i ∈ p, i < cs.length := fun i hi => List.mem_range.mp (hs.subset hi)
    have prl : pre.length ≤ 64 := by have := congrArg List.length e; simp at this; omega
    have hnew : p ∉ pre := fun z => by
      have := sbs_nodup cs.length
      rw [e] at this
      exact (List.nodup_append.mp this).2.2 p z p (by simp) rfl
    have hat : (sbs cs.length)[pre.length]? = some p := by rw [e]; simp
    have hpre : (sbs cs.length).take pre.length = pre := by rw [e]; simp
    have low : ∀ k, k < p.length → p.eraseIdx k ∈ pre := fun k hk => by
      rw [← hpre]
      exact sbs_before hat ((List.eraseIdx_sublist _ _).trans hs) (by rw [List.length_eraseIdx_of_lt hk]; omega)
    have gd : ∀ i ∈ p, cs.getD i default ∈ cs ∧ cs[i]? = some (cs.getD i default) := fun i hi => by
      have h := List.getElem?_eq_getElem (plt i hi)
      have e : cs.getD i default = cs[i]'(plt i hi) := by rw [List.getD_eq_getElem?_getD, h]; rfl
      exact ⟨by rw [e]; exact List.getElem_mem _, by rw [e]; exact h⟩
    walk_at "go"
    refine lc_map (fun j : Int => cdT (cs.getD j.toNat default)) rfl (by simp; omega) (fun j hj P hP => ?_) ?_
    · obtain ⟨i, hi, rfl⟩ := List.mem_map.mp hj
      walk_at "wp"
      walk_at "go"
      refine i_ixL (atI_nat (d := cdT (cs.getD i default)) (by rw [List.getElem?_map, (gd i hi).2]; rfl)) ?_
      exact ⟨rfl, hP⟩
    rw [show (p.map fun i : Nat => (i : Int)).map (fun j : Int => cdT (cs.getD j.toNat default)) = (pick cs p).map cdT from by simp [pick]]
    have pko : ∀ c ∈ pick cs p, CdOk c := fun c hc => by
      obtain ⟨i, hi, rfl⟩ := List.mem_map.mp hc
      exact co _ (gd i hi).1
    walk_at "go"
    refine ⟨t, pick cs p, rfl, ok, by have := ok_dp ok; omega, .inl rfl, pko, by simp [pick]; omega, ?_⟩
    walk_at "go"
    refine ⟨pf, _, tk p, rfl, updM_same, tkey_tp p, by simp [entF]; exact Nat.lt_of_le_of_lt prl (by decide), ?_⟩
    rw [show (D.int (sg (pick cs p) t)) = D.int (sv t cs p) from rfl, ent_put hnew]
    rw [show updM (updM μ pf (.dcT (entF (sv t cs) pre))) pf (.dcT (entF (sv t cs) (pre ++ [p]))) = updM μ pf (.dcT (entF (sv t cs) (pre ++ [p]))) from updM_upd]
    walk_at "go"
    rw [show ((p.map fun i : Nat => (i : Int)).map D.int).length = p.length from by simp]
    refine ⟨p.length, rfl, by omega, by omega, ?_⟩
    refine lc_rmap (fun k => .int (sv t cs (p.eraseIdx k))) rfl (by omega) (fun k hk P hP => ?_) ?_
    · have hk : k < p.length := by omega
      walk_at "wp"
      walk_at "go"
      rw [show (0 : Int) + (k : Nat) = (k : Nat) from Int.zero_add _, show ((k : Nat) : Int) + 1 = ((k + 1 : Nat) : Int) from rfl, cut_toN (by simp; omega), cut_fromN (by simp; omega)]
      refine i_addT (by simp; exact Nat.le_trans (show _ ≤ 100 by omega) (by decide)) ?_
      have e2 : (((p.map fun i : Nat => (i : Int)).map D.int).take k ++ ((p.map fun i : Nat => (i : Int)).map D.int).drop (k + 1)) = (((p.eraseIdx k).map fun i : Nat => (i : Int)).map D.int) := by
        rw [List.eraseIdx_eq_take_drop_succ]
        simp
      rw [e2]
      exact ⟨_, _, _, dicT_ref updM_same, tkey_tp _, ent_val (List.mem_append_left _ (low k hk)), rfl, hP⟩
    walk_at "go"
    refine ⟨_, _, _, dicT_ref updM_same, tkey_tp _, ent_val (by simp), ?_⟩
    walk_at "go"
    refine maxF_I (ns := lessers t cs p) (by rw [Int.toNat_natCast]; unfold lessers; rw [List.map_map]; rfl) ?_
    walk_at "go"
    rw [List.filter_append]
    refine ite_d (fun hg => ?_) (fun hg => ?_)
    · rw [show [p].filter (good t cs) = [p] from by unfold good; simp [hg]]
      walk_at "go"
      refine ⟨_, _, _, dicT_ref updM_same, tkey_tp _, ent_val (by simp), ?_⟩
      walk_at "go"
      refine ⟨_, rfl, by rw [List.length_map]; exact Nat.lt_of_le_of_lt (Nat.le_trans (List.length_filter_le _ _) prl) (by decide), ?_⟩
      rw [List.map_append]
      exact wn ⟨rfl, rfl⟩ (by simp [Le])
    · rw [show [p].filter (good t cs) = [] from by unfold good; simp [hg], List.append_nil]
      walk_at "go"
      exact wn ⟨rfl, rfl⟩ (by simp [Le])
  · obtain ⟨rfl, rfl⟩ := w
    walk_at "go"
    have e1 : ((sbs cs.length).filter (good t cs)).map (fun p => prD (pick cs p, sv t cs p)) = (((sbs cs.length).filter (good t cs)).map fun p => (pick cs p, sv t cs p)).map prD := by rw [List.map_map]; rfl
    rw [e1]
    exact kq _ (LeM.new hpf)
theorem c_form (T : Txt K mg w) : Cal P w K mg base 11 "form" ["term"] [] sp_form := by
  refine cal_of T.d_form sc_form (fun ds μ Q E h => by obtain ⟨_, rfl, _⟩ := h; rfl) (fun _ _ _ _ _ _ us hl => match us, hl with | [_], _ => rfl) (fun f Z cdv A outer s H _ E hr M hcd =>
      ⟨_, (ss_cons (s_set (i := 1) sc_form.nd (d_callX 0 (c_ordered T) (by decide) dfl0 (hr.mono (by decide)) M (a_cons (d_callX 0 (c_calls_in T) (by decide) dfl0 (hr.mono (by decide)) M (a_cons (d_var 0) a_nil)) a_nil)))
      (ss_cons (s_set (i := 2) sc_form.nd d_dicTM)
      (ss_cons (s_own (i := 3) sc_form.nd (f_lst a_nil))
      (ss_cons (s_for M.ow rfl (i_any (d_callX 0 (c_sets_of T) (by decide) dfl0 (hr.mono (by decide)) M (a_cons (d_callB c_len rfl T.b_len PySem.boot_len (a_cons (d_var 1) a_nil)) a_nil))) (g_name (i := 4) sc_form.nd)
      (ss_cons (s_set (i := 5) sc_form.nd (d_callTy c_tuple rfl T.b_tuple (by decide +kernel) (a_cons (d_ice (f_lc (own := [("place", 7)]) rfl sc_form.nd (go_name (by decide)) (i_tup (d_var 4)) (blkOk_by (N := N_form) (sc := defScope s_form) (by decide +kernel)) (fun _ _ _ _ _ => (g_name (i := 7) sc_form.nd)) (fun _ _ _ _ _ => ts_nil) (fun _ _ _ _ _ => (d_ix (d_var 1) (d_var 7))))) a_nil)))
      (ss_cons (s_putT (rm1 hr) (d_var 2) (d_var 4) (d_callX 0 (c_strength T) (by decide) dfl0 (hr.mono (by decide)) M (a_cons (d_var 0) (a_cons (d_var 5) a_nil))))
      (ss_cons (s_lc (i := 6) (own := [("k", 8)]) rfl sc_form.nd (go_name (by decide)) rfl rfl (sw_true rfl rfl rfl (by decide +kernel)) (i_range1 rfl T.b_range (a_cons (d_callB c_len rfl T.b_len PySem.boot_len (a_cons (d_var 4) a_nil)) a_nil)) (blkOk_by (N := N_form) (sc := defScope s_form) (by decide +kernel)) (fun _ _ _ _ _ => (g_name (i := 8) sc_form.nd)) (fun _ _ _ _ _ => ts_nil) (fun _ _ _ _ _ => (d_getT (rm1 hr) (d_var 2) (d_op o_add (d_slice (d_var 4) po_n (po_s (d_var 8))) (d_slice (d_var 4) (po_s (d_op o_add (d_var 8) d_int)) po_n)))))
      (ss_one (s_if (t_cmp o_gt (d_getT (rm1 hr) (d_var 2) (d_var 4)) (d_maxF rfl hr.units T.b_max (a_cons (d_var 6) a_nil) (k_cons d_int k_nil)))
      (ss_one (s_appP 3 (d_tup (a_cons (d_var 5) (a_cons (d_getT (rm1 hr) (d_var 2) (d_var 4)) a_nil)))))
      ss_nil))))))
      (ss_one (s_ret (d_callTy c_tuple rfl T.b_tuple (by decide +kernel) (a_cons (d_oo 3 (d_varF 3) (d_var 3)) a_nil))))))))⟩)
    (fun ds μ Q E h => ?_) (rd := rd_form)
  obtain ⟨b0, e, h⟩ := id h
  subst e
  exact read_form b0 μ Q E (by assumption)
/-! ### _law_form_sound: 0 _law_pairs, 1 _law_pair_here, 2 _law_call -/
abbrev N__law_form_sound : List Str := ["_law_pairs", "_law_pair_here", "_law_call"]
theorem sc__law_form_sound : FnScope N__law_form_sound ["_law_pairs"] (defScope s__law_form_sound) := ⟨rfl, rfl, rfl, by decide +kernel, rfl, by decide +kernel, by decide +kernel⟩
def sp__law_form_sound : DSp := Sp1 fun a μ Q _ => ∃ ps : List (List Cl × Int), a = .tup (ps.map prD) ∧ ps.length ≤ 8 ∧ (∀ x ∈ ps, x.1.length ≤ 6 ∧ 1 ≤ x.2 ∧ x.2 ≤ 1000000) ∧ Q (.bl true) μ
instance st_sp__law_form_sound {a : D} {μ : Mem} {Q : QM} {u3 : DX} : Step (sp__law_form_sound [a] μ Q u3) (∃ ps : List (List Cl × Int), a = .tup (ps.map prD) ∧ ps.length ≤ 8 ∧ (∀ x ∈ ps, x.1.length ≤ 6 ∧ 1 ≤ x.2 ∧ x.2 ≤ 1000000) ∧ Q (.bl true) μ) := ⟨fun h => ⟨_, rfl, h⟩⟩
def rd__law_form_sound (E : DX) : DS := (dSeq (dIfS (dOr (dNot (dTest (dCB rdIsi (dCons (dVar 0) (dCons (dC (.ty "tuple")) dNil))))) (dTest (dOp rdGt (dCB rdLen (dCons (dVar 0) dNil)) (dC (.int 8))))) (dRet (dC (.bl false))) dNext)
  (dSeq (dFor (diTup (dVar 0)) (gdName 1) (dSeq (dIfS (dOr (dNot (dTest (dCB rdIsi (dCons (dVar 1) (dCons (dC (.ty "tuple")) dNil))))) (dOr (dTest (dOp rdNe (dCB rdLen (dCons (dVar 1) dNil)) (dC (.int 2)))) (dNot (dTest (dCB rdIsi (dCons (dOp rdIx (dVar 1) (dC (.int 0))) (dCons (dC (.ty "tuple")) dNil))))))) (dRet (dC (.bl false))) dNext)
  (dSeq (dIfS (dOr (dTest (dCB rdIsi (dCons (dOp rdIx (dVar 1) (dC (.int 1))) (dCons (dC (.ty "bool")) dNil)))) (dOr (dNot (dTest (dCB rdIsi (dCons (dOp rdIx (dVar 1) (dC (.int 1))) (dCons (dC (.ty "int")) dNil))))) (dNot (dTest (dChain rdLe rdLe (dC (.int 1)) (dOp rdIx (dVar 1) (dC (.int 1))) (dC (.int 1000000))))))) (dRet (dC (.bl false))) dNext)
  (dFor (diTup (dOp rdIx (dVar 1) (dC (.int 0)))) (gdName 2) (dIfS (dOr (dNot (dTest (dCB rdIsi (dCons (dVar 2) (dCons (dC (.ty "tuple")) dNil))))) (dTest (dOp rdNe (dCB rdLen (dCons (dVar 2) dNil)) (dC (.int 2))))) (dRet (dC (.bl false))) dNext)))))
  (dRet (dC (.bl true)))))
theorem read__law_form_sound : ∀ (a0 : D) (μ : Mem) (Q : QM) (E : DX), sp__law_form_sound [a0] μ Q E → rd__law_form_sound E ⟨fun _ μ2 => Q .non μ2, Q, fun _ _ => False, fun _ _ => False⟩ [.val a0, .no, .no] μ := by
  rintro _ μ Q E ⟨_, e, ps, rfl, pl, po, kq⟩
  cases e
  unfold rd__law_form_sound
  walk_at "go"
  rw [List.length_map]
  refine ite_d (fun h => absurd h (by omega)) (fun _ => ?_)
  walk_at "go"
  refine for_pg (fun pre δ μ' => μ' = μ ∧ δ = [.val (.tup (ps.map prD)), .no, .no]) (fun _ _ _ _ => trivial) (wn ⟨rfl, rfl⟩ (by simp [Le])) (fun pre x post δ μ' e w => ?_) (fun δ μ' w => ?_)
  · obtain ⟨rfl, rfl⟩ := w
    obtain ⟨x6, x1, xm⟩ := po x (by rw [e]; simp)
    walk_at "go"
    refine ite_nd (fun h => absurd rfl h) (fun _ => ?_)
    walk_at "go"
    refine ite_d (fun _ => ?_) (fun h => absurd x1 h)
    walk_at "go"
    refine ite_nd (fun h => absurd xm h) (fun _ => ?_)
    walk_at "go"
    refine for_pg (fun pr2 δ μ2 => μ2 = μ' ∧ δ = [.val (.tup (ps.map prD)), .val (prD x), .no]) (fun _ _ _ _ => trivial) (wn ⟨rfl, rfl⟩ (by simp [Le])) (fun pr2 y post2 δ μ2 e2 w => ?_) (fun δ μ2 w => ?_)
    · obtain ⟨rfl, rfl⟩ := w
      walk_at "go"
      refine ite_nd (fun h => absurd rfl h) (fun _ => ?_)
      walk_at "go"
      exact wn ⟨rfl, rfl⟩ (by simp [Le])
    · obtain ⟨rfl, rfl⟩ := w
      walk_at "go"
      exact wn ⟨rfl, rfl⟩ (by simp [Le])
  · obtain ⟨rfl, rfl⟩ := w
    walk_at "go"
    exact kq
theorem c__law_form_sound (T : Txt K mg w) : Cal P w K mg base 1 "_law_form_sound" ["_law_pairs"] [] sp__law_form_sound := by
  refine cal_of T.d__law_form_sound sc__law_form_sound (fun ds μ Q E h => by obtain ⟨_, rfl, _⟩ := h; rfl) (fun _ _ _ _ _ _ us hl => match us, hl with | [_], _ => rfl) (fun f Z cdv A outer s H _ E hr M hcd =>
      ⟨_, (ss_cons (s_if (t_w (w_or (t_not (t_valP (d_callB c_isi rfl T.b_isinstance (by decide +kernel) (a_cons (d_var 0) (a_cons (d_bltn rfl T.b_tuple (by decide +kernel)) a_nil))))) (w_or1 (t_cmp o_gt (d_callB c_len rfl T.b_len PySem.boot_len (a_cons (d_var 0) a_nil)) d_int))))
      (ss_one (s_ret d_bl))
      ss_nil)
      (ss_cons (s_for M.ow rfl (i_tup (d_var 0)) (g_name (i := 1) sc__law_form_sound.nd)
      (ss_cons (s_if (t_w (w_or (t_not (t_valP (d_callB c_isi rfl T.b_isinstance (by decide +kernel) (a_cons (d_var 1) (a_cons (d_bltn rfl T.b_tuple (by decide +kernel)) a_nil))))) (w_or (t_cmp (o_ne hr.units) (d_callB c_len rfl T.b_len PySem.boot_len (a_cons (d_var 1) a_nil)) d_int) (w_or1 (t_not (t_valP (d_callB c_isi rfl T.b_isinstance (by decide +kernel) (a_cons (d_ix (d_var 1) d_int) (a_cons (d_bltn rfl T.b_tuple (by decide +kernel)) a_nil)))))))))
      (ss_one (s_ret d_bl))
      ss_nil)
      (ss_cons (s_if (t_w (w_or (t_valP (d_callB c_isi rfl T.b_isinstance (by decide +kernel) (a_cons (d_ix (d_var 1) d_int) (a_cons (d_bltn rfl T.b_bool (by decide +kernel)) a_nil)))) (w_or (t_not (t_valP (d_callB c_isi rfl T.b_isinstance (by decide +kernel) (a_cons (d_ix (d_var 1) d_int) (a_cons (d_bltn rfl T.b_int (by decide +kernel)) a_nil))))) (w_or1 (t_not (t_chain o_le o_le d_int (d_ix (d_var 1) d_int) d_int))))))
      (ss_one (s_ret d_bl))
      ss_nil)
      (ss_one (s_for M.ow rfl (i_tup (d_ix (d_var 1) d_int)) (g_name (i := 2) sc__law_form_sound.nd)
      (ss_one (s_if (t_w (w_or (t_not (t_valP (d_callB c_isi rfl T.b_isinstance (by decide +kernel) (a_cons (d_var 2) (a_cons (d_bltn rfl T.b_tuple (by decide +kernel)) a_nil))))) (w_or1 (t_cmp (o_ne hr.units) (d_callB c_len rfl T.b_len PySem.boot_len (a_cons (d_var 2) a_nil)) d_int))))
      (ss_one (s_ret d_bl))
      ss_nil)))))))
      (ss_one (s_ret d_bl))))⟩)
    (fun ds μ Q E h => ?_) (rd := rd__law_form_sound)
  obtain ⟨b0, e, h⟩ := id h
  subst e
  exact read__law_form_sound b0 μ Q E (by assumption)
/-! ### term_of: 0 told, 1 terms, 2 part -/
abbrev N_term_of : List Str := ["told", "terms", "part"]
theorem sc_term_of : FnScope N_term_of ["told"] (defScope s_term_of) := ⟨rfl, rfl, rfl, by decide +kernel, rfl, by decide +kernel, by decide +kernel⟩
def sp_term_of (n : Nat) : DSp := Sp1 fun a μ Q _ => ∃ t : Tm, a = toldD t ∧ okT t ∧ dp t ≤ n ∧ Q (tmD t) μ
theorem vac_term_of : ∀ ds μ Q E, ¬ sp_term_of 0 ds μ Q E := fun _ _ _ _ ⟨_, _, t, _, _, h, _⟩ => by have := dp_pos t; omega
instance st_sp_term_of {n : Nat} {a : D} {μ : Mem} {Q : QM} {u3 : DX} : Step (sp_term_of n [a] μ Q u3) (∃ t : Tm, a = toldD t ∧ okT t ∧ dp t ≤ n ∧ Q (tmD t) μ) := ⟨fun h => ⟨_, rfl, h⟩⟩
def rd_term_of (n : Nat) (E : DX) : DS := (dSeq (dIfS (dTest (dOp rdEq (dOp rdIx (dVar 0) (dC (.int 0))) (dC (.str "level")))) (dRet (dMakeI "Level" sp_Level___init__ [] (XDE E) (dCons (dOp rdIx (dVar 0) (dC (.int 1))) dNil))) dNext)
  (dSeq (dIfS (dTest (dOp rdEq (dOp rdIx (dVar 0) (dC (.int 0))) (dC (.str "called")))) (dRet (dMakeI "Called" sp_Called___init__ [] (XDE E) (dCons (dOp rdIx (dVar 0) (dC (.int 1))) (dCons (dOp rdIx (dVar 0) (dC (.int 2))) dNil)))) dNext)
  (dSeq (dSet 1 (dIce (fLc (diTup (dSl (dVar 0) (dPart (dC (.int 1))) dNoPart)) (gdName 2) dYes (dCallX (sp_term_of n) [] XD0 (dCons (dVar 2) dNil)) [2])))
  (dSeq (dIfS (dTest (dOp rdEq (dOp rdIx (dVar 0) (dC (.int 0))) (dC (.str "least")))) (dRet (dMakeI "Least" sp_Least___init__ [] (XDE E) (dCons (dVar 1) dNil))) dNext)
  (dRet (dMakeI "Greatest" sp_Greatest___init__ [] (XDE E) (dCons (dVar 1) dNil)))))))
theorem read_term_of : ∀ (n : Nat) (a0 : D) (μ : Mem) (Q : QM) (E : DX), sp_term_of (n + 1) [a0] μ Q E → rd_term_of n E ⟨fun _ μ2 => Q .non μ2, Q, fun _ _ => False, fun _ _ => False⟩ [.val a0, .no, .no] μ := by
  rintro n _ μ Q E ⟨_, e, t, rfl, ok, hn, kq⟩
  cases e
  unfold rd_term_of
  cases t with
  | lv i =>
    rw [to_lv]
    rw [tm_lv] at kq
    have ok := ok_lv.mp ok
    walk_at "go"
    refine ite_d (fun _ => ?_) (fun h => absurd rfl h)
    walk_at "go"
    intro p hp
    walk_at "go"
    refine ⟨p, true, rfl, updM_same, numOk_int ok.1 ok.2, fun _ => ?_, fun h => (by cases h)⟩
    refine ice_n2 hp ?_
    walk_at "go"
    exact kq
  | cd w t =>
    rw [to_cd]
    rw [tm_cd] at kq
    obtain ⟨ow, ot⟩ := ok_cd.mp ok
    walk_at "go"
    refine ite_d (fun h => absurd h (by decide +kernel)) (fun _ => ?_)
    walk_at "go"
    refine ite_d (fun _ => ?_) (fun h => absurd rfl h)
    walk_at "go"
    intro p hp
    walk_at "go"
    have ot2 : toD t = .non ∨ ∃ t' : Str, toD t = .str t' ∧ t'.length ≤ 1000 := by
      cases t with
      | none => exact .inl rfl
      | some t => exact .inr ⟨t, rfl, by have := (name_len (show isName t = true from ot)).2; omega⟩
    have ot3 : ∀ t', toD t = .str t' → isName t' = true := fun t' h => by
      cases t with
      | none => cases h
      | some t => cases h; exact ot
    refine ⟨p, true, rfl, updM_same, wh_isR ow, ot2, fun h => (by cases h), fun _ ⟨t', h, h2⟩ => (by rw [ot3 t' h] at h2; cases h2), fun _ _ => ?_⟩
    refine ice_n2 hp ?_
    walk_at "go"
    exact kq
  | ls l =>
    rw [to_ls]
    rw [tm_ls] at kq
    rw [dp_ls] at hn
    obtain ⟨o1, o2⟩ := ok_ls.mp ok
    walk_at "go"
    refine ite_d (fun h => absurd h (by decide +kernel)) (fun _ => ?_)
    walk_at "go"
    refine ite_d (fun h => absurd h (by decide +kernel)) (fun _ => ?_)
    walk_at "go"
    rw [cut_tail]
    walk_at "go"
    refine lc_map tmD rfl (by omega) (fun t ht P hP => ?_) ?_
    · have := dps_mem ht
      walk_at "wp"
      walk_at "go"
      refine ⟨t, rfl, o2 t ht, by omega, ?_⟩
      walk_at "go"
      exact hP
    walk_at "go"
    refine ite_d (fun h => ?_) (fun h => ?_)
    · walk_at "go"
      intro p hp
      walk_at "go"
      refine ⟨p, l, rfl, updM_same, rfl, by omega, by omega, o2, fun _ => ?_, fun h => absurd o1 h⟩
      refine ice_n2 hp ?_
      walk_at "go"
      exact kq
    · exact absurd rfl h
  | gr l =>
    rw [to_gr]
    rw [tm_gr] at kq
    rw [dp_gr] at hn
    obtain ⟨o1, o2⟩ := ok_gr.mp ok
    walk_at "go"
    refine ite_d (fun h => absurd h (by decide +kernel)) (fun _ => ?_)
    walk_at "go"
    refine ite_d (fun h => absurd h (by decide +kernel)) (fun _ => ?_)
    walk_at "go"
    rw [cut_tail]
    walk_at "go"
    refine lc_map tmD rfl (by omega) (fun t ht P hP => ?_) ?_
    · have := dps_mem ht
      walk_at "wp"
      walk_at "go"
      refine ⟨t, rfl, o2 t ht, by omega, ?_⟩
      walk_at "go"
      exact hP
    walk_at "go"
    refine ite_d (fun h => ?_) (fun h => ?_)
    · exact absurd h (by decide +kernel)
    · walk_at "go"
      intro p hp
      walk_at "go"
      refine ⟨p, l, rfl, updM_same, rfl, by omega, by omega, o2, fun _ => ?_, fun h => absurd o1 h⟩
      refine ice_n2 hp ?_
      walk_at "go"
      exact kq
theorem cs_term_of (T : Txt K mg w) : ∀ n : Nat, (Cal P w K mg base (13 + n) "term_of" ["told"] [] (sp_term_of n)) := by
  intro n
  induction n with
  | zero => exact cal_vac T.d_term_of (fun _ _ _ _ _ _ us hl => match us, hl with | [_], _ => rfl) vac_term_of
  | succ n IH =>
    have ih_term_of := IH
    refine cal_of (k := 13 + n) T.d_term_of sc_term_of (fun ds μ Q E h => by obtain ⟨_, rfl, _⟩ := h; rfl) (fun _ _ _ _ _ _ us hl => match us, hl with | [_], _ => rfl) (fun f Z cdv A outer s H _ E hr M hcd =>
        ⟨_, (ss_cons (s_if (t_cmp (o_eq hr.units) (d_ix (d_var 0) d_int) d_str)
      (ss_one (s_ret (d_makeI 0 (c_Level___init__ T) (by decide) dfl0 (hr.mono (by omega)) M (a_cons (d_ix (d_var 0) d_int) a_nil))))
      ss_nil)
      (ss_cons (s_if (t_cmp (o_eq hr.units) (d_ix (d_var 0) d_int) d_str)
      (ss_one (s_ret (d_makeI 1 (c_Called___init__ T) (by decide) dfl0 (hr.mono (by omega)) M (a_cons (d_ix (d_var 0) d_int) (a_cons (d_ix (d_var 0) d_int) a_nil)))))
      ss_nil)
      (ss_cons (s_lc (i := 1) (own := [("part", 2)]) rfl sc_term_of.nd (go_name (by decide)) rfl rfl (sw_true rfl rfl rfl (by decide +kernel)) (i_tup (d_slice (d_var 0) (po_s d_int) po_n)) (blkOk_by (N := N_term_of) (sc := defScope s_term_of) (by decide +kernel)) (fun _ _ _ _ _ => (g_name (i := 2) sc_term_of.nd)) (fun _ _ _ _ _ => ts_nil) (fun _ _ _ _ _ => (d_callX 0 ih_term_of (by decide) dfl0 (hr.mono (by omega)) (md_blk (K := K) (Z := Z) M.gd) (a_cons (d_var 2) a_nil))))
      (ss_cons (s_if (t_cmp (o_eq hr.units) (d_ix (d_var 0) d_int) d_str)
      (ss_one (s_ret (d_makeI 0 (c_Least___init__ T) (by decide) dfl0 (hr.mono (by omega)) M (a_cons (d_var 1) a_nil))))
      ss_nil)
      (ss_one (s_ret (d_makeI 0 (c_Greatest___init__ T) (by decide) dfl0 (hr.mono (by omega)) M (a_cons (d_var 1) a_nil))))))))⟩)
      (fun ds μ Q E h => ?_) (rd := rd_term_of n)
    obtain ⟨b0, e, h⟩ := id h
    subst e
    exact read_term_of n b0 μ Q E (by assumption)
theorem c_term_of (T : Txt K mg w) : Cal P w K mg base 22 "term_of" ["told"] [] (sp_term_of 9) := (cs_term_of T 9)
/-! ### _law_pair: 0 _law_pair_here, 1 _law_calls_here, 2 _law_call -/
abbrev N__law_pair : List Str := ["_law_pair_here", "_law_calls_here", "_law_call"]
theorem sc__law_pair : FnScope N__law_pair ["_law_pair_here"] (defScope s__law_pair) := ⟨rfl, rfl, rfl, by decide +kernel, rfl, by decide +kernel, by decide +kernel⟩
def sp__law_pair : DSp := Sp1 fun a μ Q _ => ∃ x : List Cl × Int, a = prD x ∧ x.1.length ≤ 6 ∧ (∀ c ∈ x.1, CdOk c) ∧ Q (toldD (wrP x)) μ
instance st_sp__law_pair {a : D} {μ : Mem} {Q : QM} {u3 : DX} : Step (sp__law_pair [a] μ Q u3) (∃ x : List Cl × Int, a = prD x ∧ x.1.length ≤ 6 ∧ (∀ c ∈ x.1, CdOk c) ∧ Q (toldD (wrP x)) μ) := ⟨fun h => ⟨_, rfl, h⟩⟩
def rd__law_pair (E : DX) : DS := (dSeq (dSet 1 (dIce (fLc (diTup (dOp rdIx (dVar 0) (dC (.int 0)))) (gdName 2) dYes (dTup (dCons (dC (.str "called")) (dCons (dOp rdIx (dVar 2) (dC (.int 0))) (dCons (dOp rdIx (dVar 2) (dC (.int 1))) dNil)))) [2])))
  (dSeq (dIfS (dTest (dOp rdEq (dVar 1) (dLst dNil))) (dRet (dTup (dCons (dC (.str "level")) (dCons (dOp rdIx (dVar 0) (dC (.int 1))) dNil)))) dNext)
  (dRet (dCB rdTup (dCons (dOp rdAdd (dLst (dCons (dC (.str "least")) (dCons (dTup (dCons (dC (.str "level")) (dCons (dOp rdIx (dVar 0) (dC (.int 1))) dNil))) dNil))) (dVar 1)) dNil)))))
theorem read__law_pair : ∀ (a0 : D) (μ : Mem) (Q : QM) (E : DX), sp__law_pair [a0] μ Q E → rd__law_pair E ⟨fun _ μ2 => Q .non μ2, Q, fun _ _ => False, fun _ _ => False⟩ [.val a0, .no, .no] μ := by
  rintro _ μ Q E ⟨_, e, x, rfl, xl, xo, kq⟩
  cases e
  unfold rd__law_pair
  rw [told_wrP] at kq
  walk_at "go"
  refine lc_map (fun c => .tup [.str "called", whD c.1, toD c.2]) rfl (by omega) (fun c hc P hP => ?_) ?_
  · walk_at "wp"
    walk_at "go"
    exact hP
  walk_at "go"
  refine eq_nil (pl_lst (pls_map fun c hc => pl_call (xo c hc))) (by decide) ?_
  walk_at "go"
  refine ite_d (fun h => ?_) (fun h => ?_)
  · rw [if_pos h] at kq
    walk_at "go"
    exact kq
  · rw [if_neg h] at kq
    walk_at "go"
    refine i_addL (sz_of (by simp; omega)) ?_
    walk_at "go"
    exact kq
theorem c__law_pair (T : Txt K mg w) : Cal P w K mg base 1 "_law_pair" ["_law_pair_here"] [] sp__law_pair := by
  refine cal_of T.d__law_pair sc__law_pair (fun ds μ Q E h => by obtain ⟨_, rfl, _⟩ := h; rfl) (fun _ _ _ _ _ _ us hl => match us, hl with | [_], _ => rfl) (fun f Z cdv A outer s H _ E hr M hcd =>
      ⟨_, (ss_cons (s_lc (i := 1) (own := [("_law_call", 2)]) rfl sc__law_pair.nd (go_name (by decide)) rfl rfl (sw_true rfl rfl rfl (by decide +kernel)) (i_tup (d_ix (d_var 0) d_int)) (blkOk_by (N := N__law_pair) (sc := defScope s__law_pair) (by decide +kernel)) (fun _ _ _ _ _ => (g_name (i := 2) sc__law_pair.nd)) (fun _ _ _ _ _ => ts_nil) (fun _ _ _ _ _ => (d_tup (a_cons d_str (a_cons (d_ix (d_var 2) d_int) (a_cons (d_ix (d_var 2) d_int) a_nil))))))
      (ss_cons (s_if (t_cmp (o_eq hr.units) (d_var 1) (d_lst a_nil))
      (ss_one (s_ret (d_tup (a_cons d_str (a_cons (d_ix (d_var 0) d_int) a_nil)))))
      ss_nil)
      (ss_one (s_ret (d_callTy c_tuple rfl T.b_tuple (by decide +kernel) (a_cons (d_op o_add (d_lst (a_cons d_str (a_cons (d_tup (a_cons d_str (a_cons (d_ix (d_var 0) d_int) a_nil))) a_nil))) (d_var 1)) a_nil))))))⟩)
    (fun ds μ Q E h => ?_) (rd := rd__law_pair)
  obtain ⟨b0, e, h⟩ := id h
  subst e
  exact read__law_pair b0 μ Q E (by assumption)
/-! ### _law_written: 0 _law_pairs, 1 _law_parts, 2 _law_pair_here -/
abbrev N__law_written : List Str := ["_law_pairs", "_law_parts", "_law_pair_here"]
theorem sc__law_written : FnScope N__law_written ["_law_pairs"] (defScope s__law_written) := ⟨rfl, rfl, rfl, by decide +kernel, rfl, by decide +kernel, by decide +kernel⟩
def sp__law_written : DSp := Sp1 fun a μ Q _ => ∃ ps : List (List Cl × Int), a = .tup (ps.map prD) ∧ ps.length ≤ 8 ∧ (∀ x ∈ ps, x.1.length ≤ 6 ∧ (∀ c ∈ x.1, CdOk c)) ∧ Q (toldD (wr ps)) μ
instance st_sp__law_written {a : D} {μ : Mem} {Q : QM} {u3 : DX} : Step (sp__law_written [a] μ Q u3) (∃ ps : List (List Cl × Int), a = .tup (ps.map prD) ∧ ps.length ≤ 8 ∧ (∀ x ∈ ps, x.1.length ≤ 6 ∧ (∀ c ∈ x.1, CdOk c)) ∧ Q (toldD (wr ps)) μ) := ⟨fun h => ⟨_, rfl, h⟩⟩
def rd__law_written (E : DX) : DS := (dSeq (dSet 1 (dIce (fLc (diTup (dVar 0)) (gdName 2) dYes (dCallX sp__law_pair [] XD0 (dCons (dVar 2) dNil)) [2])))
  (dSeq (dIfS (dTest (dOp rdEq (dVar 1) (dLst dNil))) (dRet (dTup (dCons (dC (.str "level")) (dCons (dC (.int 0)) dNil)))) dNext)
  (dSeq (dIfS (dTest (dOp rdEq (dCB rdLen (dCons (dVar 1) dNil)) (dC (.int 1)))) (dRet (dOp rdIx (dVar 1) (dC (.int 0)))) dNext)
  (dRet (dCB rdTup (dCons (dOp rdAdd (dLst (dCons (dC (.str "greatest")) dNil)) (dVar 1)) dNil))))))
theorem read__law_written : ∀ (a0 : D) (μ : Mem) (Q : QM) (E : DX), sp__law_written [a0] μ Q E → rd__law_written E ⟨fun _ μ2 => Q .non μ2, Q, fun _ _ => False, fun _ _ => False⟩ [.val a0, .no, .no] μ := by
  rintro _ μ Q E ⟨_, e, ps, rfl, pl, po, kq⟩
  cases e
  unfold rd__law_written
  walk_at "go"
  refine lc_map (fun x => toldD (wrP x)) rfl (by omega) (fun x hx P hP => ?_) ?_
  · walk_at "wp"
    walk_at "go"
    refine ⟨x, rfl, (po x hx).1, (po x hx).2, ?_⟩
    walk_at "go"
    exact hP
  walk_at "go"
  refine eq_nil (pl_lst (pls_map fun x hx => pl_wrP (po x hx).2)) (by decide) ?_
  walk_at "go"
  match ps, pl, kq with
  | [], _, kq =>
    walk_at "go"
    rw [wr, to_lv] at kq
    exact kq
  | [x], _, kq =>
    refine ite_d (fun h => nomatch h) (fun _ => ?_)
    walk_at "go"
    refine ite_d (fun _ => ?_) (fun h => absurd rfl h)
    walk_at "go"
    exact i_ixL (atI_nat (i := 0) (d := toldD (wrP x)) rfl) kq
  | x :: y :: r, pl, kq =>
    rw [wr, to_gr, List.map_map] at kq
    refine ite_d (fun h => nomatch h) (fun _ => ?_)
    walk_at "go"
    refine i_addL (sz_of (by simp at pl ⊢; omega)) ?_
    walk_at "go"
    exact kq
theorem c__law_written (T : Txt K mg w) : Cal P w K mg base 2 "_law_written" ["_law_pairs"] [] sp__law_written := by
  refine cal_of T.d__law_written sc__law_written (fun ds μ Q E h => by obtain ⟨_, rfl, _⟩ := h; rfl) (fun _ _ _ _ _ _ us hl => match us, hl with | [_], _ => rfl) (fun f Z cdv A outer s H _ E hr M hcd =>
      ⟨_, (ss_cons (s_lc (i := 1) (own := [("_law_pair_here", 2)]) rfl sc__law_written.nd (go_name (by decide)) rfl rfl (sw_true rfl rfl rfl (by decide +kernel)) (i_tup (d_var 0)) (blkOk_by (N := N__law_written) (sc := defScope s__law_written) (by decide +kernel)) (fun _ _ _ _ _ => (g_name (i := 2) sc__law_written.nd)) (fun _ _ _ _ _ => ts_nil) (fun _ _ _ _ _ => (d_callX 0 (c__law_pair T) (by decide) dfl0 (hr.mono (by decide)) (md_blk (K := K) (Z := Z) M.gd) (a_cons (d_var 2) a_nil))))
      (ss_cons (s_if (t_cmp (o_eq hr.units) (d_var 1) (d_lst a_nil))
      (ss_one (s_ret (d_tup (a_cons d_str (a_cons d_int a_nil)))))
      ss_nil)
      (ss_cons (s_if (t_cmp (o_eq hr.units) (d_callB c_len rfl T.b_len PySem.boot_len (a_cons (d_var 1) a_nil)) d_int)
      (ss_one (s_ret (d_ix (d_var 1) d_int)))
      ss_nil)
      (ss_one (s_ret (d_callTy c_tuple rfl T.b_tuple (by decide +kernel) (a_cons (d_op o_add (d_lst (a_cons d_str a_nil)) (d_var 1)) a_nil)))))))⟩)
    (fun ds μ Q E h => ?_) (rd := rd__law_written)
  obtain ⟨b0, e, h⟩ := id h
  subst e
  exact read__law_written b0 μ Q E (by assumption)
/-! ### _law_alike: 0 _law_found, 1 _law_due, 2 _law_k -/
abbrev N__law_alike : List Str := ["_law_found", "_law_due", "_law_k"]
theorem sc__law_alike : FnScope N__law_alike ["_law_found", "_law_due"] (defScope s__law_alike) := ⟨rfl, rfl, rfl, by decide +kernel, rfl, by decide +kernel, by decide +kernel⟩
def sp__law_alike (n : Nat) : DSp := Sp2 fun a b μ Q _ => a = b ∧ AlD n a ∧ Q (.bl true) μ
theorem vac__law_alike : ∀ ds μ Q E, ¬ sp__law_alike 0 ds μ Q E := fun _ _ _ _ ⟨_, _, _, _, h, _⟩ => h
instance st_sp__law_alike {n : Nat} {a b : D} {μ : Mem} {Q : QM} {u4 : DX} : Step (sp__law_alike n [a, b] μ Q u4) (a = b ∧ AlD n a ∧ Q (.bl true) μ) := ⟨fun h => ⟨_, _, rfl, h⟩⟩
def rd__law_alike (n : Nat) (E : DX) : DS := (dSeq (dIfS (dTest (dOp rdIsN (dVar 1) (dC .non))) (dRet (dOp rdIsN (dVar 0) (dC .non))) dNext)
  (dSeq (dIfS (dTest (dCB rdIsi (dCons (dVar 1) (dCons (dC (.ty "str")) dNil)))) (dRet (dAndV (dCB rdIsi (dCons (dVar 0) (dCons (dC (.ty "str")) dNil))) (dOp rdEq (dVar 0) (dVar 1)))) dNext)
  (dSeq (dIfS (dNot (dTest (dCB rdIsi (dCons (dVar 1) (dCons (dC (.ty "tuple")) dNil))))) (dRet (dAndV (dCB rdIsi (dCons (dVar 0) (dCons (dC (.ty "int")) dNil))) (dAndV (dNotV (dCB rdIsi (dCons (dVar 0) (dCons (dC (.ty "bool")) dNil)))) (dOp rdEq (dVar 0) (dVar 1))))) dNext)
  (dSeq (dIfS (dOr (dNot (dTest (dCB rdIsi (dCons (dVar 0) (dCons (dC (.ty "tuple")) dNil))))) (dTest (dOp rdNe (dCB rdLen (dCons (dVar 0) dNil)) (dCB rdLen (dCons (dVar 1) dNil))))) (dRet (dC (.bl false))) dNext)
  (dRet (dCB rdAll (dCons (dIce (fLc (diRng1 (dCons (dCB rdLen (dCons (dVar 1) dNil)) dNil)) (gdName 2) dYes (dCallX (sp__law_alike n) [] XD0 (dCons (dOp rdIx (dVar 0) (dVar 2)) (dCons (dOp rdIx (dVar 1) (dVar 2)) dNil))) [2])) dNil)))))))
theorem read__law_alike : ∀ (n : Nat) (a0 a1 : D) (μ : Mem) (Q : QM) (E : DX), sp__law_alike (n + 1) [a0, a1] μ Q E → rd__law_alike n E ⟨fun _ μ2 => Q .non μ2, Q, fun _ _ => False, fun _ _ => False⟩ [.val a0, .val a1, .no] μ := by
  rintro n a b μ Q E ⟨_, _, e, rfl, h, kq⟩
  cases e
  unfold rd__law_alike
  rcases h with rfl | ⟨s, rfl, hs⟩ | ⟨i, rfl⟩ | ⟨l, rfl, hl, h⟩
  · walk_at "go"
    exact kq
  · walk_at "go"
    rw [decide_eq_true rfl]
    exact kq
  · walk_at "go"
    refine i_isi (t := "int") (b := false) rfl (by decide +kernel) ?_
    walk_at "go"
    refine i_isi (t := "int") (b := false) rfl (by decide +kernel) ?_
    walk_at "go"
    rw [decide_eq_true rfl]
    exact kq
  walk_at "go"
  refine i_isi (t := "tuple") (b := false) rfl (by decide +kernel) ?_
  walk_at "go"
  refine ite_f (by simp) ?_
  walk_at "go"
  refine lc_rmap (n := l.length) (fun _ => .bl true) rfl (by omega) (fun i hi P hP => ?_) ?_
  · walk_at "wp"
    have el : l[i]? = some l[i] := List.getElem?_eq_getElem hi
    walk_at "go"
    refine ix_ofT (n := i) (by omega) el ?_
    walk_at "go"
    refine ix_ofT (n := i) (by omega) el ?_
    walk_at "go"
    exact ⟨rfl, h _ (List.getElem_mem hi), rfl, hP⟩
  walk_at "go"
  refine all_true ?_
  exact kq
theorem cs__law_alike (T : Txt K mg w) : ∀ n : Nat, (Cal P w K mg base (1 + n) "_law_alike" ["_law_found", "_law_due"] [] (sp__law_alike n)) := by
  intro n
  induction n with
  | zero => exact cal_vac T.d__law_alike (fun _ _ _ _ _ _ us hl => match us, hl with | [_, _], _ => rfl) vac__law_alike
  | succ n IH =>
    have ih__law_alike := IH
    refine cal_of (k := 1 + n) T.d__law_alike sc__law_alike (fun ds μ Q E h => by obtain ⟨_, _, rfl, _⟩ := h; rfl) (fun _ _ _ _ _ _ us hl => match us, hl with | [_, _], _ => rfl) (fun f Z cdv A outer s H _ E hr M hcd =>
        ⟨_, (ss_cons (s_if (t_cmp o_isN (d_var 1) d_non)
      (ss_one (s_ret (d_cmp o_isN (d_var 0) d_non)))
      ss_nil)
      (ss_cons (s_if (t_valP (d_callB c_isi rfl T.b_isinstance (by decide +kernel) (a_cons (d_var 1) (a_cons (d_bltn rfl T.b_str (by decide +kernel)) a_nil))))
      (ss_one (s_ret (d_and (d_callB c_isi rfl T.b_isinstance (by decide +kernel) (a_cons (d_var 0) (a_cons (d_bltn rfl T.b_str (by decide +kernel)) a_nil))) (d_one (d_cmp (o_eq hr.units) (d_var 0) (d_var 1))))))
      ss_nil)
      (ss_cons (s_if (t_not (t_valP (d_callB c_isi rfl T.b_isinstance (by decide +kernel) (a_cons (d_var 1) (a_cons (d_bltn rfl T.b_tuple (by decide +kernel)) a_nil)))))
      (ss_one (s_ret (d_and (d_callB c_isi rfl T.b_isinstance (by decide +kernel) (a_cons (d_var 0) (a_cons (d_bltn rfl T.b_int (by decide +kernel)) a_nil))) (d_and (d_not (d_callB c_isi rfl T.b_isinstance (by decide +kernel) (a_cons (d_var 0) (a_cons (d_bltn rfl T.b_bool (by decide +kernel)) a_nil)))) (d_one (d_cmp (o_eq hr.units) (d_var 0) (d_var 1)))))))
      ss_nil)
      (ss_cons (s_if (t_w (w_or (t_not (t_valP (d_callB c_isi rfl T.b_isinstance (by decide +kernel) (a_cons (d_var 0) (a_cons (d_bltn rfl T.b_tuple (by decide +kernel)) a_nil))))) (w_or1 (t_cmp (o_ne hr.units) (d_callB c_len rfl T.b_len PySem.boot_len (a_cons (d_var 0) a_nil)) (d_callB c_len rfl T.b_len PySem.boot_len (a_cons (d_var 1) a_nil))))))
      (ss_one (s_ret d_bl))
      ss_nil)
      (ss_one (s_ret (d_callB (c_all rfl) rfl T.b_all (by decide +kernel) (a_cons (d_ice (f_lc (own := [("_law_k", 2)]) rfl sc__law_alike.nd (go_name (by decide)) (i_range1 rfl T.b_range (a_cons (d_callB c_len rfl T.b_len PySem.boot_len (a_cons (d_var 1) a_nil)) a_nil)) (blkOk_by (N := N__law_alike) (sc := defScope s__law_alike) (by decide +kernel)) (fun _ _ _ _ _ => (g_name (i := 2) sc__law_alike.nd)) (fun _ _ _ _ _ => ts_nil) (fun _ _ _ _ _ => (d_callX 0 ih__law_alike (by decide) dfl0 (hr.mono (by omega)) (md_blk (K := K) (Z := Z) M.gd) (a_cons (d_ix (d_var 0) (d_var 2)) (a_cons (d_ix (d_var 1) (d_var 2)) a_nil)))))) a_nil))))))))⟩)
      (fun ds μ Q E h => ?_) (rd := rd__law_alike n)
    obtain ⟨b0, b1, e, h⟩ := id h
    subst e
    exact read__law_alike n b0 b1 μ Q E (by assumption)
theorem c__law_alike (T : Txt K mg w) : Cal P w K mg base 13 "_law_alike" ["_law_found", "_law_due"] [] (sp__law_alike 12) := (cs__law_alike T 12)
/-! ### day_beside: 0 days, 1 first -/
abbrev N_day_beside : List Str := ["days", "first"]
theorem sc_day_beside : FnScope N_day_beside ["days", "first"] (defScope s_day_beside) := ⟨rfl, rfl, rfl, by decide +kernel, rfl, by decide +kernel, by decide +kernel⟩
def sp_day_beside : DSp := Sp2 fun a b μ Q _ => ∃ (ws : List Wh) (f : Int), a = .lst (ws.map whD) ∧ ws.length ≤ 100 ∧ b = .int f ∧ ∀ d, f ≤ d → d ≤ f + ws.length → Wh.day d ∉ ws → Q (.int d) μ
instance st_sp_day_beside {a b : D} {μ : Mem} {Q : QM} {u4 : DX} : Step (sp_day_beside [a, b] μ Q u4) (∃ (ws : List Wh) (f : Int), a = .lst (ws.map whD) ∧ ws.length ≤ 100 ∧ b = .int f ∧ ∀ d, f ≤ d → d ≤ f + ws.length → Wh.day d ∉ ws → Q (.int d) μ) := ⟨fun h => ⟨_, _, rfl, h⟩⟩
def rd_day_beside (E : DX) : DS := (dSeq (dWhile (dTest (dOp (rdIn false) (dVar 1) (dVar 0))) (dSet 1 (dOp rdAdd (dVar 1) (dC (.int 1)))))
  (dRet (dVar 1)))
theorem read_day_beside : ∀ (a0 a1 : D) (μ : Mem) (Q : QM) (E : DX), sp_day_beside [a0, a1] μ Q E → rd_day_beside E ⟨fun _ μ2 => Q .non μ2, Q, fun _ _ => False, fun _ _ => False⟩ [.val a0, .val a1] μ := by
  rintro _ _ μ Q E ⟨_, _, e, ws, f, rfl, wl, rfl, kq⟩
  cases e
  unfold rd_day_beside
  walk_at "go"
  refine wh_by (fun m δ μ' => μ' = μ ∧ ∃ (j : Nat) (x : Int), x = f + j ∧ (∀ i : Nat, i < j → Wh.day (f + i) ∈ ws) ∧ j + m = ws.length + 1 ∧ δ = [.val (.lst (ws.map whD)), .val (.int x)]) (ws.length + 1) (wn ⟨rfl, 0, f, by simp, fun i hi => absurd hi (by omega), by omega, rfl⟩ (by simp [Le])) (fun m δ μ' w => ?_)
  obtain ⟨rfl, j, x, hx, hj, hm, rfl⟩ := w
  have jl : j ≤ ws.length := by
    have := nodup_leA (l := (List.range j).map fun i : Nat => Wh.day (f + i)) (U := ws) (List.pairwise_map.mpr (List.nodup_range.imp fun h e => h (by injection e with e; omega))) fun c hc => by
      obtain ⟨i, hi, rfl⟩ := List.mem_map.mp hc
      exact hj i (List.mem_range.mp hi)
    simpa using this
  walk_at "go"
  refine i_inL (l := ws.map whD) rfl (flat_wh ws) ?_
  rw [inD_wh]
  walk_at "go"
  refine ite_d (fun h => ?_) (fun h => ?_)
  · walk_at "go"
    refine lt_w (m - 1) (by omega) (wn ⟨rfl, j + 1, x + 1, by omega, fun i hi => ?_, by omega, rfl⟩ (by simp [Le]))
    by_cases z : i < j
    · exact hj i z
    · rw [show i = j by omega, ← hx]; exact h
  · walk_at "go"
    exact kq x (by omega) (by omega) h
theorem c_day_beside (T : Txt K mg w) : Cal P w K mg base 1 "day_beside" ["days", "first"] [] sp_day_beside := by
  refine cal_of T.d_day_beside sc_day_beside (fun ds μ Q E h => by obtain ⟨_, _, rfl, _⟩ := h; rfl) (fun _ _ _ _ _ _ us hl => match us, hl with | [_, _], _ => rfl) (fun f Z cdv A outer s H _ E hr M hcd =>
      ⟨_, (ss_cons (s_while M.ow (t_cmp o_in (d_var 1) (d_var 0))
      (ss_one (s_set (i := 1) sc_day_beside.nd (d_op o_add (d_var 1) d_int))))
      (ss_one (s_ret (d_var 1))))⟩)
    (fun ds μ Q E h => ?_) (rd := rd_day_beside)
  obtain ⟨b0, b1, e, h⟩ := id h
  subst e
  exact read_day_beside b0 b1 μ Q E (by assumption)
/-! ### book_of: 0 calls, 1 chosen, 2 towns, 3 home, 4 days, 5 made, 6 paid, 7 rows, 8 when, 9 town, 10 day, 11 place -/
abbrev N_book_of : List Str := ["calls", "chosen", "towns", "home", "days", "made", "paid", "rows", "when", "town", "day", "place"]
theorem sc_book_of : FnScope N_book_of ["calls", "chosen"] (defScope s_book_of) := ⟨rfl, rfl, rfl, by decide +kernel, rfl, by decide +kernel, by decide +kernel⟩
def bookD (cs S : List Cl) (z : Case) : D := .tup [.lst (cs.map fun c => .tup [.str (c.2.getD z.town), .int (whAt z c.1), .int (if c ∈ S then 1000000 else 0)]), caseD z]
def sp_book_of : DSp := Sp2 fun a b μ Q _ => ∃ cs S : List Cl, a = .lst (cs.map cdT) ∧ b = .lst (S.map cdT) ∧ cs.length ≤ 6 ∧ S.length ≤ 6 ∧ (∀ c ∈ cs, CdOk c) ∧ (∀ c ∈ S, CdOk c) ∧ ∀ z μ', LeM μ μ' → Beside cs z → Q (bookD cs S z) μ'
instance st_sp_book_of {a b : D} {μ : Mem} {Q : QM} {u4 : DX} : Step (sp_book_of [a, b] μ Q u4) (∃ cs S : List Cl, a = .lst (cs.map cdT) ∧ b = .lst (S.map cdT) ∧ cs.length ≤ 6 ∧ S.length ≤ 6 ∧ (∀ c ∈ cs, CdOk c) ∧ (∀ c ∈ S, CdOk c) ∧ ∀ z μ', LeM μ μ' → Beside cs z → Q (bookD cs S z) μ') := ⟨fun h => ⟨_, _, rfl, h⟩⟩
def rd_book_of (E : DX) : DS := (dSeq (dSet 2 (dIce (fLc (diAny (dVar 0)) (gdTup 2 (gdCons (gdName 8) (gdCons (gdName 9) gdNil))) dYes (dVar 9) [8, 9])))
  (dSeq (dSet 3 (dOp rdIx (dIce (fLc (diTup (dTup (dCons (dC (.str "a")) (dCons (dC (.str "b")) (dCons (dC (.str "c")) (dCons (dC (.str "d")) (dCons (dC (.str "e")) (dCons (dC (.str "f")) (dCons (dC (.str "g")) dNil))))))))) (gdName 9) (dTest (dOp (rdIn true) (dVar 9) (dVar 2))) (dVar 9) [9])) (dC (.int 0))))
  (dSeq (dSet 4 (dIce (fLc (diAny (dVar 0)) (gdTup 2 (gdCons (gdName 8) (gdCons (gdName 9) gdNil))) dYes (dVar 8) [8, 9])))
  (dSeq (dSet 5 (dCallX sp_day_beside [] (XDE E) (dCons (dVar 4) (dCons (dC (.int 0)) dNil))))
  (dSeq (dSet 6 (dCallX sp_day_beside [] (XDE E) (dCons (dVar 4) (dCons (dOp rdAdd (dVar 5) (dC (.int 1))) dNil))))
  (dSeq (dOwn 7 (fLst dNil))
  (dSeq (dFor (diAny (dVar 0)) (gdTup 2 (gdCons (gdName 8) (gdCons (gdName 9) gdNil))) (dSeq (dSet 10 (dGetD (dDic2 (.inr "made") (.inr "paid") (dVar 5) (dVar 6)) (dVar 8) (dVar 8)))
  (dSeq (dSet 11 (dVar 9))
  (dSeq (dIfS (dTest (dOp rdIsN (dVar 9) (dC .non))) (dSet 11 (dVar 3)) dNext)
  (dApp 7 (dTup (dCons (dVar 11) (dCons (dVar 10) (dCons (dOp rdMul (dC (.int 1000000)) (dCB rdInt (dCons (dOp (rdInE false) (dTup (dCons (dVar 8) (dCons (dVar 9) dNil))) (dVar 1)) dNil))) dNil)))))))))
  (dRet (dTup (dCons (dOO 7 (dVarF 7) (dVar 7)) (dCons (dTup (dCons (dVar 3) (dCons (dVar 5) (dCons (dVar 6) dNil)))) dNil)))))))))))
theorem read_book_of : ∀ (a0 a1 : D) (μ : Mem) (Q : QM) (E : DX), sp_book_of [a0, a1] μ Q E → rd_book_of E ⟨fun _ μ2 => Q .non μ2, Q, fun _ _ => False, fun _ _ => False⟩ [.val a0, .val a1, .no, .no, .no, .no, .no, .no, .no, .no, .no, .no] μ := by
  rintro _ _ μ Q E ⟨_, _, e, cs, S, rfl, rfl, c6, s6, co, so, kq⟩
  cases e
  unfold rd_book_of
  walk_at "go"
  refine lc_map (fun c => toD c.2) rfl (by omega) (fun c hc P hP => ?_) ?_
  · walk_at "wp"
    walk_at "go"
    exact hP
  rw [show cs.map (fun c => toD c.2) = (cs.map (·.2)).map toD from by rw [List.map_map]; rfl]
  walk_at "go"
  rw [show [Dl.D.str "a", .str "b", .str "c", .str "d", .str "e", .str "f", .str "g"] = (["a", "b", "c", "d", "e", "f", "g"] : List Str).map .str from rfl]
  refine lc_p (fun x : Str => if some x ∈ cs.map (·.2) then none else some (.str x)) rfl (by decide) (fun x hx P hP => ?_) ?_
  · walk_at "wp"
    walk_at "go"
    refine i_notInL (x := .str x) (l := (cs.map (·.2)).map toD) rfl (flat_to _) ?_
    rw [inD_to]
    by_cases h : some x ∈ cs.map (·.2)
    · rw [if_pos h] at hP
      refine ⟨_, rfl, rfl, ?_⟩
      rw [decide_eq_true h]
      exact hP
    · rw [if_neg h] at hP
      refine ⟨_, rfl, rfl, ?_⟩
      rw [decide_eq_false h]
      walk_at "go"
      first | exact ⟨rfl, hP⟩ | exact hP
  obtain ⟨home, rest, hh, hn, e1⟩ := home_of (ws := cs.map (·.2)) (by rw [List.length_map]; exact c6)
  rw [e1]
  have hhn : isName home = true := hh
  refine i_ixL (atI_nat (i := 0) (d := .str home) rfl) ?_
  walk_at "go"
  refine lc_map (fun c => whD c.1) rfl (by omega) (fun c hc P hP => ?_) ?_
  · walk_at "wp"
    walk_at "go"
    exact hP
  rw [show cs.map (fun c => whD c.1) = (cs.map (·.1)).map whD from by rw [List.map_map]; rfl]
  walk_at "go"
  refine ⟨cs.map (·.1), 0, rfl, by rw [List.length_map]; omega, rfl, fun made m0 m1 mn => ?_⟩
  rw [List.length_map] at m1
  walk_at "go"
  refine ⟨cs.map (·.1), made + 1, rfl, by rw [List.length_map]; omega, rfl, fun paid p0 p1 pn => ?_⟩
  rw [List.length_map] at p1
  have B : Beside cs ⟨home, made, paid⟩ := ⟨⟨hhn, ⟨by show 0 ≤ made; omega, by show made ≤ 9999; omega⟩, ⟨by show 0 ≤ paid; omega, by show paid ≤ 9999; omega⟩⟩, fun c hc z => hn (by rw [← show c.2 = some home from z]; exact List.mem_map_of_mem hc), fun c hc => ⟨fun z => mn (by rw [← show c.1 = .day made from z]; exact List.mem_map_of_mem hc), fun z => pn (by rw [← show c.1 = .day paid from z]; exact List.mem_map_of_mem hc)⟩, by show made < paid; omega⟩
  walk_at "go"
  refine for_pg (fun pre δ μ' => LeM μ μ' ∧ δ = [.val (.lst (cs.map cdT)), .val (.lst (S.map cdT)), .val (.lst ((cs.map (·.2)).map toD)), .val (.str home), .val (.lst ((cs.map (·.1)).map whD)), .val (.int made), .val (.int paid), .own (.lst (pre.map fun c => .tup [.str (c.2.getD home), .int (whAt ⟨home, made, paid⟩ c.1), .int (if c ∈ S then 1000000 else 0)])), .no, .no, .no, .no]) (fun _ _ _ _ => trivial) (wn ⟨LeM.refl _, rfl⟩ (by simp [Le])) (fun pre c post δ μ' e w => ?_) (fun δ μ' w => ?_)
  · obtain ⟨le, rfl⟩ := w
    have oc := co c (by rw [e]; simp)
    have pl : pre.length ≤ 6 := by have := congrArg List.length e; simp at this; omega
    obtain ⟨w, t⟩ := c
    walk_at "go"
    intro pd hpd
    walk_at "go"
    have dic : dicOf (updM (updM μ' pd (.dct [])) pd (.dct [(.inr "made", .int made), (.inr "paid", .int paid)])) (.ref pd) = some [(.inr "made", .int made), (.inr "paid", .int paid)] := by
      unfold dicOf
      dsimp only
      rw [updM_same]
    refine ⟨updM_same, ⟨_, dic⟩, ?_⟩
    walk_at "go"
    refine ⟨_, kwh w, dic, keyD_wh w, ?_⟩
    rw [val_wh (z := ⟨home, made, paid⟩)]
    rw [updM_upd]
    have le2 := le.trans (LeM.new (m := .dct [(.inr "made", .int made), (.inr "paid", .int paid)]) hpd)
    walk_at "go"
    cases t with
    | none =>
      refine ite_t rfl ?_
      walk_at "go"
      refine in_plE (l := S.map cdT) (.inl rfl) (pl_cd (c := (w, none)) oc) (pl_lst (pls_cd so)) (by decide) (by decide) (anyD_map (f := cdT) (a := (w, none)) fun b _ => eq_cd b (w, none)) ?_
      walk_at "go"
      refine ⟨_, rfl, by rw [List.length_map]; exact Nat.lt_of_le_of_lt pl (by decide), ?_⟩
      rw [List.map_append]
      by_cases h : (w, none) ∈ S
      · exact wn ⟨le2, rfl⟩ (by simp [Le, h])
      · exact wn ⟨le2, rfl⟩ (by simp [Le, h])
    | some x =>
      refine ite_f rfl ?_
      walk_at "go"
      refine in_plE (l := S.map cdT) (.inl rfl) (pl_cd (c := (w, some x)) oc) (pl_lst (pls_cd so)) (by decide) (by decide) (anyD_map (f := cdT) (a := (w, some x)) fun b _ => eq_cd b (w, some x)) ?_
      walk_at "go"
      refine ⟨_, rfl, by rw [List.length_map]; exact Nat.lt_of_le_of_lt pl (by decide), ?_⟩
      rw [List.map_append]
      by_cases h : (w, some x) ∈ S
      · exact wn ⟨le2, rfl⟩ (by simp [Le, h, toD])
      · exact wn ⟨le2, rfl⟩ (by simp [Le, h, toD])
  · obtain ⟨le, rfl⟩ := w
    walk_at "go"
    exact kq ⟨home, made, paid⟩ _ le B
theorem c_book_of (T : Txt K mg w) : Cal P w K mg base 2 "book_of" ["calls", "chosen"] [] sp_book_of := by
  refine cal_of T.d_book_of sc_book_of (fun ds μ Q E h => by obtain ⟨_, _, rfl, _⟩ := h; rfl) (fun _ _ _ _ _ _ us hl => match us, hl with | [_, _], _ => rfl) (fun f Z cdv A outer s H _ E hr M hcd =>
      ⟨_, (ss_cons (s_set (i := 2) sc_book_of.nd (d_ice (f_lc (own := [("when", 8), ("town", 9)]) rfl sc_book_of.nd (go_tup (gos_cons (go_name (by decide)) (gos_cons (go_name (by decide)) gos_nil gm_name gms_nil) gm_name (gms_cons gm_name gms_nil))) (i_any (d_var 0)) (blkOk_by (N := N_book_of) (sc := defScope s_book_of) (by decide +kernel)) (fun _ _ _ _ _ => (g_tupP rfl (gs_consP (g_name (i := 8) sc_book_of.nd) (gs_consP (g_name (i := 9) sc_book_of.nd) gs_nil)))) (fun _ _ _ _ _ => ts_nil) (fun _ _ _ _ _ => (d_var 9)))))
      (ss_cons (s_set (i := 3) sc_book_of.nd (d_ix (d_ice (f_lc (own := [("town", 9)]) rfl sc_book_of.nd (go_name (by decide)) (i_tup (d_tup (a_cons d_str (a_cons d_str (a_cons d_str (a_cons d_str (a_cons d_str (a_cons d_str (a_cons d_str a_nil))))))))) (blkOk_by (N := N_book_of) (sc := defScope s_book_of) (by decide +kernel)) (fun _ _ _ _ _ => (g_name (i := 9) sc_book_of.nd)) (fun _ _ _ _ _ => (ts_one (t_cmp o_notIn (d_var 9) (d_var 2)))) (fun _ _ _ _ _ => (d_var 9)))) d_int))
      (ss_cons (s_lc (i := 4) (own := [("when", 8), ("town", 9)]) rfl sc_book_of.nd (go_tup (gos_cons (go_name (by decide)) (gos_cons (go_name (by decide)) gos_nil gm_name gms_nil) gm_name (gms_cons gm_name gms_nil))) rfl rfl (sw_true rfl rfl rfl (by decide +kernel)) (i_any (d_var 0)) (blkOk_by (N := N_book_of) (sc := defScope s_book_of) (by decide +kernel)) (fun _ _ _ _ _ => (g_tupP rfl (gs_consP (g_name (i := 8) sc_book_of.nd) (gs_consP (g_name (i := 9) sc_book_of.nd) gs_nil)))) (fun _ _ _ _ _ => ts_nil) (fun _ _ _ _ _ => (d_var 8)))
      (ss_cons (s_set (i := 5) sc_book_of.nd (d_callX 0 (c_day_beside T) (by decide) dfl0 (hr.mono (by decide)) M (a_cons (d_var 4) (a_cons d_int a_nil))))
      (ss_cons (s_set (i := 6) sc_book_of.nd (d_callX 0 (c_day_beside T) (by decide) dfl0 (hr.mono (by decide)) M (a_cons (d_var 4) (a_cons (d_op o_add (d_var 5) d_int) a_nil))))
      (ss_cons (s_own (i := 7) sc_book_of.nd (f_lst a_nil))
      (ss_cons (s_for M.ow rfl (i_any (d_var 0)) (g_tupP rfl (gs_consP (g_name (i := 8) sc_book_of.nd) (gs_consP (g_name (i := 9) sc_book_of.nd) gs_nil)))
      (ss_cons (s_set (i := 10) sc_book_of.nd (d_getD (rm1 hr) (d_dic2 (kc := (.inr "made")) (lc := (.inr "paid")) d_str rfl (d_var 5) d_str rfl (d_var 6)) (d_var 8) (d_var 8)))
      (ss_cons (s_set (i := 11) sc_book_of.nd (d_var 9))
      (ss_cons (s_if (t_cmp o_isN (d_var 9) d_non)
      (ss_one (s_set (i := 11) sc_book_of.nd (d_var 3)))
      ss_nil)
      (ss_one (s_appP 7 (d_tup (a_cons (d_var 11) (a_cons (d_var 10) (a_cons (d_op o_mul (d_globI rfl T.g_TOP.choose_spec ⟨_, rfl⟩) (d_callTy c_int rfl T.b_int (by decide +kernel) (a_cons (d_cmp (o_inE (rm65 hr)) (d_tup (a_cons (d_var 8) (a_cons (d_var 9) a_nil))) (d_var 1)) a_nil))) a_nil))))))))))
      (ss_one (s_ret (d_tup (a_cons (d_oo 7 (d_varF 7) (d_var 7)) (a_cons (d_tup (a_cons (d_var 3) (a_cons (d_var 5) (a_cons (d_var 6) a_nil)))) a_nil))))))))))))⟩)
    (fun ds μ Q E h => ?_) (rd := rd_book_of)
  obtain ⟨b0, b1, e, h⟩ := id h
  subst e
  exact read_book_of b0 b1 μ Q E (by assumption)
/-! ### parted: 0 one, 1 other, 2 calls, 3 places, 4 chosen, 5 place -/
abbrev N_parted : List Str := ["one", "other", "calls", "places", "chosen", "place"]
theorem sc_parted : FnScope N_parted ["one", "other"] (defScope s_parted) := ⟨rfl, rfl, rfl, by decide +kernel, rfl, by decide +kernel, by decide +kernel⟩
def sp_parted : DSp := Sp2 fun a b μ Q _ => ∃ t1 t2 : Tm, a = tmD t1 ∧ b = tmD t2 ∧ okT t1 ∧ okT t2 ∧ (ords (cls t1 ++ cls t2)).length ≤ 6 ∧ ((∀ S, sg S t1 = sg S t2) → ∀ μ', LeM μ μ' → Q .non μ') ∧
  ∀ S z μ', LeM μ μ' → sg S t1 ≠ sg S t2 → Beside (ords (cls t1 ++ cls t2)) z → Q (bookD (ords (cls t1 ++ cls t2)) S z) μ'
instance st_sp_parted {a b : D} {μ : Mem} {Q : QM} {u4 : DX} : Step (sp_parted [a, b] μ Q u4) (∃ t1 t2 : Tm, a = tmD t1 ∧ b = tmD t2 ∧ okT t1 ∧ okT t2 ∧ (ords (cls t1 ++ cls t2)).length ≤ 6 ∧ ((∀ S, sg S t1 = sg S t2) → ∀ μ', LeM μ μ' → Q .non μ') ∧
  ∀ S z μ', LeM μ μ' → sg S t1 ≠ sg S t2 → Beside (ords (cls t1 ++ cls t2)) z → Q (bookD (ords (cls t1 ++ cls t2)) S z) μ') := ⟨fun h => ⟨_, _, rfl, h⟩⟩
def rd_parted (E : DX) : DS := (dSeq (dSet 2 (dCallX sp_ordered [] (XDE E) (dCons (dOp rdAdd (dCallX (sp_calls_in 9) [] (XDE E) (dCons (dVar 0) dNil)) (dCallX (sp_calls_in 9) [] (XDE E) (dCons (dVar 1) dNil))) dNil)))
  (dSeq (dFor (diAny (dCallX sp_sets_of [] (XDE E) (dCons (dCB rdLen (dCons (dVar 2) dNil)) dNil))) (gdName 3) (dSeq (dSet 4 (dIce (fLc (diTup (dVar 3)) (gdName 5) dYes (dOp rdIx (dVar 2) (dVar 5)) [5])))
  (dIfS (dTest (dOp rdNe (dCallX (sp_strength 9) [] (XDE E) (dCons (dVar 0) (dCons (dVar 4) dNil))) (dCallX (sp_strength 9) [] (XDE E) (dCons (dVar 1) (dCons (dVar 4) dNil))))) (dRet (dCallX sp_book_of [] (XDE E) (dCons (dVar 2) (dCons (dVar 4) dNil)))) dNext)))
  (dRet (dC .non))))
theorem read_parted : ∀ (a0 a1 : D) (μ : Mem) (Q : QM) (E : DX), sp_parted [a0, a1] μ Q E → rd_parted E ⟨fun _ μ2 => Q .non μ2, Q, fun _ _ => False, fun _ _ => False⟩ [.val a0, .val a1, .no, .no, .no, .no] μ := by
  rintro _ _ μ Q E ⟨_, _, e, t1, t2, rfl, rfl, o1, o2, h6, q1, q2⟩
  cases e
  unfold rd_parted
  have hd1 := ok_dp o1
  have hd2 := ok_dp o2
  have co : ∀ c ∈ cls t1 ++ cls t2, CdOk c := fun c hc => (List.mem_append.mp hc).elim (cls_ok t1 o1 c) (cls_ok t2 o2 c)
  walk_at "go"
  refine ⟨t1, rfl, o1, by omega, ?_⟩
  walk_at "go"
  refine ⟨t2, rfl, o2, by omega, ?_⟩
  walk_at "go"
  refine i_addL (sz_of (by have := cls_len o1; have := cls_len o2; simp only [List.length_map]; omega)) ?_
  rw [← List.map_append]
  walk_at "go"
  refine ⟨_, rfl, co, by have := cls_len o1; have := cls_len o2; rw [List.length_append]; omega, ?_⟩
  rw [if_pos h6]
  have sub1 : ∀ c ∈ cls t1, c ∈ ords (cls t1 ++ cls t2) := fun c hc => ((ords_spec _).2 c).mpr (List.mem_append_left _ hc)
  have sub2 : ∀ c ∈ cls t2, c ∈ ords (cls t1 ++ cls t2) := fun c hc => ((ords_spec _).2 c).mpr (List.mem_append_right _ hc)
  have co : ∀ c ∈ ords (cls t1 ++ cls t2), CdOk c := fun c hc => co c (((ords_spec _).2 c).mp hc)
  generalize ords (cls t1 ++ cls t2) = cs at h6 q2 sub1 sub2 co
  walk_at "go"
  refine ⟨cs.length, by rw [List.length_map], h6, ?_⟩
  refine wk_le rfl fun G hG => ?_
  refine for_pg (fun pre δ μ' => LeM μ μ' ∧ (∀ p ∈ pre, sg (pick cs p) t1 = sg (pick cs p) t2) ∧ δ = [.val (tmD t1), .val (tmD t2), .val (.lst (cs.map cdT)), .no, .no, .no]) (fun _ _ _ _ => hG _ rfl) (wn ⟨LeM.refl _, (fun _ h => nomatch h), rfl⟩ (by simp [Le])) (fun pre p post δ μ' e w => ?_) (fun δ μ' w => ?_)
  · obtain ⟨le, all, rfl⟩ := w
    have hp : p ∈ sbs cs.length := by rw [e]; simp
    have hs := mem_sbs.mp hp
    have p6 : p.length ≤ 6 := by have := hs.length_le; simp at this; omega
    have plt : ∀ i ∈ p, i < cs.length := fun i hi => List.mem_range.mp (hs.subset hi)
    have gd : ∀ i ∈ p, cs.getD i default ∈ cs ∧ cs[i]? = some (cs.getD i default) := fun i hi => by
      have h := List.getElem?_eq_getElem (plt i hi)
      have e : cs.getD i default = cs[i]'(plt i hi) := by rw [List.getD_eq_getElem?_getD, h]; rfl
      exact ⟨by rw [e]; exact List.getElem_mem _, by rw [e]; exact h⟩
    walk_at "go"
    refine lc_map (fun j : Int => cdT (cs.getD j.toNat default)) rfl (by simp; omega) (fun j hj P hP => ?_) ?_
    · obtain ⟨i, hi, rfl⟩ := List.mem_map.mp hj
      walk_at "wp"
      walk_at "go"
      refine i_ixL (atI_nat (d := cdT (cs.getD i default)) (by rw [List.getElem?_map, (gd i hi).2]; rfl)) ?_
      exact ⟨rfl, hP⟩
    rw [show (p.map fun i : Nat => (i : Int)).map (fun j : Int => cdT (cs.getD j.toNat default)) = (pick cs p).map cdT from by simp [pick]]
    have pko : ∀ c ∈ pick cs p, CdOk c := fun c hc => by
      obtain ⟨i, hi, rfl⟩ := List.mem_map.mp hc
      exact co _ (gd i hi).1
    have pk6 : (pick cs p).length ≤ 6 := by simp [pick]; omega
    walk_at "go"
    refine ⟨t1, pick cs p, rfl, o1, by omega, .inr rfl, pko, pk6, ?_⟩
    walk_at "go"
    refine ⟨t2, pick cs p, rfl, o2, by omega, .inr rfl, pko, pk6, ?_⟩
    walk_at "go"
    refine ite_nd (fun h => ?_) (fun h => ?_)
    · walk_at "go"
      refine ⟨cs, pick cs p, rfl, rfl, h6, pk6, co, pko, fun z μ1 le1 B => ?_⟩
      walk_at "go"
      exact q2 (pick cs p) z μ1 (le.trans le1) h B
    · walk_at "go"
      refine wn ⟨le, fun x hx => ?_, rfl⟩ (by simp [Le])
      rcases List.mem_append.mp hx with hx | hx
      · exact all x hx
      · rw [List.mem_singleton.mp hx]; exact h
  · obtain ⟨le, all, rfl⟩ := w
    walk_at "go"
    refine q1 (fun S => ?_) _ le
    rw [← sg_pick o1 sub1 S, ← sg_pick o2 sub2 S]
    exact all _ (mem_sbs.mpr (List.filter_sublist ..))
theorem c_parted (T : Txt K mg w) : Cal P w K mg base 11 "parted" ["one", "other"] [] sp_parted := by
  refine cal_of T.d_parted sc_parted (fun ds μ Q E h => by obtain ⟨_, _, rfl, _⟩ := h; rfl) (fun _ _ _ _ _ _ us hl => match us, hl with | [_, _], _ => rfl) (fun f Z cdv A outer s H _ E hr M hcd =>
      ⟨_, (ss_cons (s_set (i := 2) sc_parted.nd (d_callX 0 (c_ordered T) (by decide) dfl0 (hr.mono (by decide)) M (a_cons (d_op o_add (d_callX 0 (c_calls_in T) (by decide) dfl0 (hr.mono (by decide)) M (a_cons (d_var 0) a_nil)) (d_callX 0 (c_calls_in T) (by decide) dfl0 (hr.mono (by decide)) M (a_cons (d_var 1) a_nil))) a_nil)))
      (ss_cons (s_for M.ow rfl (i_any (d_callX 0 (c_sets_of T) (by decide) dfl0 (hr.mono (by decide)) M (a_cons (d_callB c_len rfl T.b_len PySem.boot_len (a_cons (d_var 2) a_nil)) a_nil))) (g_name (i := 3) sc_parted.nd)
      (ss_cons (s_lc (i := 4) (own := [("place", 5)]) rfl sc_parted.nd (go_name (by decide)) rfl rfl (sw_true rfl rfl rfl (by decide +kernel)) (i_tup (d_var 3)) (blkOk_by (N := N_parted) (sc := defScope s_parted) (by decide +kernel)) (fun _ _ _ _ _ => (g_name (i := 5) sc_parted.nd)) (fun _ _ _ _ _ => ts_nil) (fun _ _ _ _ _ => (d_ix (d_var 2) (d_var 5))))
      (ss_one (s_if (t_cmp (o_ne hr.units) (d_callX 0 (c_strength T) (by decide) dfl0 (hr.mono (by decide)) M (a_cons (d_var 0) (a_cons (d_var 4) a_nil))) (d_callX 0 (c_strength T) (by decide) dfl0 (hr.mono (by decide)) M (a_cons (d_var 1) (a_cons (d_var 4) a_nil))))
      (ss_one (s_ret (d_callX 0 (c_book_of T) (by decide) dfl0 (hr.mono (by decide)) M (a_cons (d_var 2) (a_cons (d_var 4) a_nil)))))
      ss_nil))))
      (ss_one (s_ret d_non))))⟩)
    (fun ds μ Q E h => ?_) (rd := rd_parted)
  obtain ⟨b0, b1, e, h⟩ := id h
  subst e
  exact read_parted b0 b1 μ Q E (by assumption)
/-! ### _law_call_worth: 0 _law_rows, 1 _law_town, 2 _law_kind, 3 _law_day_here, 4 _law_last, 5 _law_worth_here, 6 _law_row -/
abbrev N__law_call_worth : List Str := ["_law_rows", "_law_town", "_law_kind", "_law_day_here", "_law_last", "_law_worth_here", "_law_row"]
theorem sc__law_call_worth : FnScope N__law_call_worth ["_law_rows", "_law_town", "_law_kind", "_law_day_here"] (defScope s__law_call_worth) := ⟨rfl, rfl, rfl, by decide +kernel, rfl, by decide +kernel, by decide +kernel⟩
def sp__law_call_worth : DSp := Sp4 fun a b c d μ Q _ => ∃ (p : Addr) (rows : List Row) (t k : Str) (n : Int), a = .ref p ∧ μ p = some (.lst (rows.map rowD)) ∧ (∀ r ∈ rows, RowOk r) ∧ b = .str t ∧ isName t = true ∧ c = .str k ∧ isName k = true ∧ d = .int n ∧ Q (.int (wOf rows t k n)) μ
instance st_sp__law_call_worth {a b c d : D} {μ : Mem} {Q : QM} {u6 : DX} : Step (sp__law_call_worth [a, b, c, d] μ Q u6) (∃ (p : Addr) (rows : List Row) (t k : Str) (n : Int), a = .ref p ∧ μ p = some (.lst (rows.map rowD)) ∧ (∀ r ∈ rows, RowOk r) ∧ b = .str t ∧ isName t = true ∧ c = .str k ∧ isName k = true ∧ d = .int n ∧ Q (.int (wOf rows t k n)) μ) := ⟨fun h => ⟨_, _, _, _, rfl, h⟩⟩
def rd__law_call_worth (E : DX) : DS := (dSeq (dSet 4 (dNeg (dC (.int 1))))
  (dSeq (dSet 5 (dC (.int 0)))
  (dSeq (dFor (diAny (dVar 0)) (gdName 6) (dIfS (dAnd (dTest (dOp rdEq (dOp rdIx (dVar 6) (dC (.int 0))) (dVar 1))) (dAnd (dTest (dOp rdEq (dOp rdIx (dVar 6) (dC (.int 1))) (dVar 2))) (dTest (dChain rdLe rdLe (dVar 4) (dOp rdIx (dVar 6) (dC (.int 2))) (dVar 3))))) (dSeq (dSet 4 (dOp rdIx (dVar 6) (dC (.int 2))))
  (dSet 5 (dOp rdIx (dVar 6) (dC (.int 3))))) dNext))
  (dRet (dVar 5)))))
theorem read__law_call_worth : ∀ (a0 a1 a2 a3 : D) (μ : Mem) (Q : QM) (E : DX), sp__law_call_worth [a0, a1, a2, a3] μ Q E → rd__law_call_worth E ⟨fun _ μ2 => Q .non μ2, Q, fun _ _ => False, fun _ _ => False⟩ [.val a0, .val a1, .val a2, .val a3, .no, .no, .no] μ := by
  rintro _ _ _ _ μ Q E ⟨_, _, _, _, e, p, rows, t, k, n, rfl, hp, ok, rfl, ht, rfl, hk, rfl, kq⟩
  cases e
  unfold rd__law_call_worth
  walk_at "go"
  refine for_pg (fun pre δ μ' => μ' = μ ∧ ∃ s, s = pre.foldl (wStep t k n) (-1, 0) ∧ δ = [.val (.ref p), .val (.str t), .val (.str k), .val (.int n), .val (.int s.1), .val (.int s.2), .no]) (fun pre δ μ' w => by rw [w.1]; exact hp) (wn ⟨rfl, _, rfl, rfl⟩ (by simp [Le])) (fun pre r post δ μ' e w => ?_) (fun δ μ' w => ?_)
  · obtain ⟨rfl, s, hs, rfl⟩ := w
    have rk := ok r (by rw [e]; simp)
    have no : ¬ (r.t = t ∧ r.k = k ∧ s.1 ≤ r.d ∧ r.d ≤ n) → (pre ++ [r]).foldl (wStep t k n) (-1, 0) = s := fun z => by
      rw [List.foldl_append, ← hs]
      show wStep t k n s r = s
      unfold wStep
      rw [if_neg z]
    unfold rowD
    walk_at "go"
    refine ite_d (fun h1 => ?_) (fun h1 => ?_)
    · walk_at "go"
      refine ite_d (fun h2 => ?_) (fun h2 => ?_)
      · walk_at "go"
        refine ite_d (fun h3 => ?_) (fun h3 => ?_)
        · walk_at "go"
          refine ite_d (fun h4 => ?_) (fun h4 => ?_)
          · walk_at "go"
            refine wn ⟨rfl, (r.d, r.w), ?_, rfl⟩ (by simp [Le])
            rw [List.foldl_append, ← hs]
            show _ = wStep t k n s r
            unfold wStep
            rw [if_pos ⟨h1, h2, h3, h4⟩]
          · walk_at "go"
            exact wn ⟨rfl, s, (no fun z => h4 z.2.2.2).symm, rfl⟩ (by simp [Le])
        · walk_at "go"
          exact wn ⟨rfl, s, (no fun z => h3 z.2.2.1).symm, rfl⟩ (by simp [Le])
      · walk_at "go"
        exact wn ⟨rfl, s, (no fun z => h2 z.2.1).symm, rfl⟩ (by simp [Le])
    · walk_at "go"
      exact wn ⟨rfl, s, (no fun z => h1 z.1).symm, rfl⟩ (by simp [Le])
  · obtain ⟨rfl, s, hs, rfl⟩ := w
    walk_at "go"
    unfold wOf at kq
    rw [← hs] at kq
    exact kq
theorem c__law_call_worth (T : Txt K mg w) : Cal P w K mg base 1 "_law_call_worth" ["_law_rows", "_law_town", "_law_kind", "_law_day_here"] [] sp__law_call_worth := by
  refine cal_of T.d__law_call_worth sc__law_call_worth (fun ds μ Q E h => by obtain ⟨_, _, _, _, rfl, _⟩ := h; rfl) (fun _ _ _ _ _ _ us hl => match us, hl with | [_, _, _, _], _ => rfl) (fun f Z cdv A outer s H _ E hr M hcd =>
      ⟨_, (ss_cons (s_set (i := 4) sc__law_call_worth.nd (d_neg d_int))
      (ss_cons (s_set (i := 5) sc__law_call_worth.nd d_int)
      (ss_cons (s_for M.ow rfl (i_any (d_var 0)) (g_name (i := 6) sc__law_call_worth.nd)
      (ss_one (s_if (t_w (w_and (t_cmp (o_eq hr.units) (d_ix (d_var 6) d_int) (d_var 1)) (w_and (t_cmp (o_eq hr.units) (d_ix (d_var 6) d_int) (d_var 2)) (w_and1 (t_chain o_le o_le (d_var 4) (d_ix (d_var 6) d_int) (d_var 3))))))
      (ss_cons (s_set (i := 4) sc__law_call_worth.nd (d_ix (d_var 6) d_int))
      (ss_one (s_set (i := 5) sc__law_call_worth.nd (d_ix (d_var 6) d_int))))
      ss_nil)))
      (ss_one (s_ret (d_var 5))))))⟩)
    (fun ds μ Q E h => ?_) (rd := rd__law_call_worth)
  obtain ⟨b0, b1, b2, b3, e, h⟩ := id h
  subst e
  exact read__law_call_worth b0 b1 b2 b3 μ Q E (by assumption)
/-! ### _law_worth: 0 _law_told_here, 1 _law_rows, 2 _law_kind, 3 _law_case, 4 _law_day_here, 5 _law_found, 6 _law_part -/
abbrev N__law_worth : List Str := ["_law_told_here", "_law_rows", "_law_kind", "_law_case", "_law_day_here", "_law_found", "_law_part"]
theorem sc__law_worth : FnScope N__law_worth ["_law_told_here", "_law_rows", "_law_kind", "_law_case"] (defScope s__law_worth) := ⟨rfl, rfl, rfl, by decide +kernel, rfl, by decide +kernel, by decide +kernel⟩
def sp__law_worth (n : Nat) : DSp := Sp4 fun a b c d μ Q _ => ∃ (t : Tm) (p : Addr) (rows : List Row) (k : Str) (z : Case), a = toldD t ∧ okT t ∧ dp t ≤ n ∧ b = .ref p ∧ μ p = some (.lst (rows.map rowD)) ∧ (∀ r ∈ rows, RowOk r) ∧ c = .str k ∧ isName k = true ∧ d = caseD z ∧ CaseOk z ∧ Q (.int (tw rows k z t)) μ
theorem vac__law_worth : ∀ ds μ Q E, ¬ sp__law_worth 0 ds μ Q E := fun _ _ _ _ ⟨_, _, _, _, _, t, _, _, _, _, _, _, h, _⟩ => by have := dp_pos t; omega
instance st_sp__law_worth {n : Nat} {a b c d : D} {μ : Mem} {Q : QM} {u6 : DX} : Step (sp__law_worth n [a, b, c, d] μ Q u6) (∃ (t : Tm) (p : Addr) (rows : List Row) (k : Str) (z : Case), a = toldD t ∧ okT t ∧ dp t ≤ n ∧ b = .ref p ∧ μ p = some (.lst (rows.map rowD)) ∧ (∀ r ∈ rows, RowOk r) ∧ c = .str k ∧ isName k = true ∧ d = caseD z ∧ CaseOk z ∧ Q (.int (tw rows k z t)) μ) := ⟨fun h => ⟨_, _, _, _, rfl, h⟩⟩
def rd__law_worth (n : Nat) (E : DX) : DS := (dSeq (dIfS (dTest (dOp rdEq (dOp rdIx (dVar 0) (dC (.int 0))) (dC (.str "level")))) (dRet (dOp rdIx (dVar 0) (dC (.int 1)))) dNext)
  (dSeq (dIfS (dTest (dOp rdEq (dOp rdIx (dVar 0) (dC (.int 0))) (dC (.str "called")))) (dSeq (dSet 4 (dOp rdIx (dVar 0) (dC (.int 1))))
  (dCut (dIfS (dTest (dOp rdEq (dVar 4) (dC (.str "made")))) (dSet 4 (dOp rdIx (dVar 3) (dC (.int 1)))) (dIfS (dTest (dOp rdEq (dVar 4) (dC (.str "paid")))) (dSet 4 (dOp rdIx (dVar 3) (dC (.int 2)))) dNext))
  (dRet (dCallX sp__law_call_worth [] (XDE E) (dCons (dVar 1) (dCons (dIf (dTest (dOp rdIsN (dOp rdIx (dVar 0) (dC (.int 2))) (dC .non))) (dOp rdIx (dVar 3) (dC (.int 0))) (dOp rdIx (dVar 0) (dC (.int 2)))) (dCons (dVar 2) (dCons (dVar 4) dNil)))))))) dNext)
  (dSeq (dSet 5 (dIce (fLc (diTup (dSl (dVar 0) (dPart (dC (.int 1))) dNoPart)) (gdName 6) dYes (dCallX (sp__law_worth n) [] XD0 (dCons (dVar 6) (dCons (dVar 1) (dCons (dVar 2) (dCons (dVar 3) dNil))))) [6])))
  (dSeq (dIfS (dTest (dOp rdEq (dOp rdIx (dVar 0) (dC (.int 0))) (dC (.str "least")))) (dRet (dCB rdMinL (dCons (dVar 5) dNil))) dNext)
  (dRet (dCB rdMaxL (dCons (dVar 5) dNil)))))))
theorem read__law_worth : ∀ (n : Nat) (a0 a1 a2 a3 : D) (μ : Mem) (Q : QM) (E : DX), sp__law_worth (n + 1) [a0, a1, a2, a3] μ Q E → rd__law_worth n E ⟨fun _ μ2 => Q .non μ2, Q, fun _ _ => False, fun _ _ => False⟩ [.val a0, .val a1, .val a2, .val a3, .no, .no, .no] μ := by
  rintro n _ _ _ _ μ Q E ⟨_, _, _, _, e, t, p, rows, k, z, rfl, ok, hn, rfl, hp, rok, rfl, hk, rfl, hz, kq⟩
  cases e
  unfold rd__law_worth
  cases t with
  | lv i =>
    rw [to_lv]
    rw [tw_lv] at kq
    walk_at "go"
    refine ite_d (fun _ => ?_) (fun h => absurd rfl h)
    walk_at "go"
    exact kq
  | cd w t =>
    rw [to_cd]
    rw [tw_cd] at kq
    obtain ⟨ow, ot⟩ := ok_cd.mp ok
    walk_at "go"
    refine ite_d (fun h => absurd h (by decide +kernel)) (fun _ => ?_)
    walk_at "go"
    refine ite_d (fun _ => ?_) (fun h => absurd rfl h)
    walk_at "go"
    refine cut_by (fun δ' μ' => μ' = μ ∧ δ' = [.val (.tup [.str "called", whD w, toD t]), .val (.ref p), .val (.str k), .val (caseD z), .val (.int (whAt z w)), .no, .no]) ?_ ?_
    · cases w with
      | made =>
        show dIfS _ _ _ _ [.val (.tup [.str "called", .str "made", toD t]), .val (.ref p), .val (.str k), .val (caseD z), .val (.str "made"), .no, .no] μ
        walk_at "go"
        refine ite_t rfl ?_
        walk_at "go"
        exact wn ⟨rfl, rfl⟩ (by simp [Le, whD, whAt])
      | paid =>
        show dIfS _ _ _ _ [.val (.tup [.str "called", .str "paid", toD t]), .val (.ref p), .val (.str k), .val (caseD z), .val (.str "paid"), .no, .no] μ
        walk_at "go"
        refine ite_d (fun h => absurd h (by decide +kernel)) (fun _ => ?_)
        walk_at "go"
        refine ite_t rfl ?_
        walk_at "go"
        exact wn ⟨rfl, rfl⟩ (by simp [Le, whD, whAt])
      | day m =>
        show dIfS _ _ _ _ [.val (.tup [.str "called", .int m, toD t]), .val (.ref p), .val (.str k), .val (caseD z), .val (.int m), .no, .no] μ
        walk_at "go"
        refine eq_pl pl_int (pl_str (lit_cp (by decide +kernel))) (by decide) (by decide) (b := false) rfl ?_
        walk_at "go"
        refine eq_pl pl_int (pl_str (lit_cp (by decide +kernel))) (by decide) (by decide) (b := false) rfl ?_
        walk_at "go"
        exact wn ⟨rfl, rfl⟩ (by simp [Le, whD, whAt])
    rintro _ _ ⟨rfl, rfl⟩
    cases t with
    | none =>
      walk_at "go"
      refine ite_t rfl ?_
      walk_at "go"
      exact ⟨p, rows, z.town, k, whAt z w, rfl, hp, rok, rfl, hz.t, rfl, hk, rfl, kq⟩
    | some t =>
      walk_at "go"
      refine ite_f rfl ?_
      walk_at "go"
      exact ⟨p, rows, t, k, whAt z w, rfl, hp, rok, rfl, ot, rfl, hk, rfl, kq⟩
  | ls l =>
    rw [to_ls]
    rw [tw_ls] at kq
    rw [dp_ls] at hn
    obtain ⟨o1, o2⟩ := ok_ls.mp ok
    walk_at "go"
    refine ite_d (fun h => absurd h (by decide +kernel)) (fun _ => ?_)
    walk_at "go"
    refine ite_d (fun h => absurd h (by decide +kernel)) (fun _ => ?_)
    walk_at "go"
    rw [cut_tail]
    walk_at "go"
    refine lc_map (fun t => .int (tw rows k z t)) rfl (by omega) (fun t ht P hP => ?_) ?_
    · have := dps_mem ht
      walk_at "wp"
      walk_at "go"
      exact ⟨t, p, rows, k, z, rfl, o2 t ht, by omega, rfl, hp, rok, rfl, hk, rfl, hz, ⟨rfl, hP⟩⟩
    walk_at "go"
    refine ite_d (fun _ => ?_) (fun h => absurd rfl h)
    walk_at "go"
    refine i_minL (ns := l.map (tw rows k z)) (by rw [List.map_map]; rfl) (by rw [List.length_map]; omega) fun M m1 m2 => ?_
    walk_at "go"
    rw [is_minI m1 m2]
    exact kq
  | gr l =>
    rw [to_gr]
    rw [tw_gr] at kq
    rw [dp_gr] at hn
    obtain ⟨o1, o2⟩ := ok_gr.mp ok
    walk_at "go"
    refine ite_d (fun h => absurd h (by decide +kernel)) (fun _ => ?_)
    walk_at "go"
    refine ite_d (fun h => absurd h (by decide +kernel)) (fun _ => ?_)
    walk_at "go"
    rw [cut_tail]
    walk_at "go"
    refine lc_map (fun t => .int (tw rows k z t)) rfl (by omega) (fun t ht P hP => ?_) ?_
    · have := dps_mem ht
      walk_at "wp"
      walk_at "go"
      exact ⟨t, p, rows, k, z, rfl, o2 t ht, by omega, rfl, hp, rok, rfl, hk, rfl, hz, ⟨rfl, hP⟩⟩
    walk_at "go"
    refine ite_d (fun h => absurd h (by decide +kernel)) (fun _ => ?_)
    walk_at "go"
    refine i_maxL (ns := l.map (tw rows k z)) (by rw [List.map_map]; rfl) (by rw [List.length_map]; omega) fun M m1 m2 => ?_
    walk_at "go"
    rw [is_maxI m1 m2]
    exact kq
theorem cs__law_worth (T : Txt K mg w) : ∀ n : Nat, (Cal P w K mg base (1 + n) "_law_worth" ["_law_told_here", "_law_rows", "_law_kind", "_law_case"] [] (sp__law_worth n)) := by
  intro n
  induction n with
  | zero => exact cal_vac T.d__law_worth (fun _ _ _ _ _ _ us hl => match us, hl with | [_, _, _, _], _ => rfl) vac__law_worth
  | succ n IH =>
    have ih__law_worth := IH
    refine cal_of (k := 1 + n) T.d__law_worth sc__law_worth (fun ds μ Q E h => by obtain ⟨_, _, _, _, rfl, _⟩ := h; rfl) (fun _ _ _ _ _ _ us hl => match us, hl with | [_, _, _, _], _ => rfl) (fun f Z cdv A outer s H _ E hr M hcd =>
        ⟨_, (ss_cons (s_if (t_cmp (o_eq hr.units) (d_ix (d_var 0) d_int) d_str)
      (ss_one (s_ret (d_ix (d_var 0) d_int)))
      ss_nil)
      (ss_cons (s_if (t_cmp (o_eq hr.units) (d_ix (d_var 0) d_int) d_str)
      (ss_cons (s_set (i := 4) sc__law_worth.nd (d_ix (d_var 0) d_int))
      (ss_cut (s_if (t_cmp (o_eq hr.units) (d_var 4) d_str)
      (ss_one (s_set (i := 4) sc__law_worth.nd (d_ix (d_var 3) d_int)))
      (ss_one (s_if (t_cmp (o_eq hr.units) (d_var 4) d_str)
      (ss_one (s_set (i := 4) sc__law_worth.nd (d_ix (d_var 3) d_int)))
      ss_nil)))
      (ss_one (s_ret (d_callX 0 (c__law_call_worth T) (by decide) dfl0 (hr.mono (by omega)) M (a_cons (d_var 1) (a_cons (d_ifExp (t_cmp o_isN (d_ix (d_var 0) d_int) d_non) (d_ix (d_var 3) d_int) (d_ix (d_var 0) d_int)) (a_cons (d_var 2) (a_cons (d_var 4) a_nil)))))))))
      ss_nil)
      (ss_cons (s_lc (i := 5) (own := [("_law_part", 6)]) rfl sc__law_worth.nd (go_name (by decide)) rfl rfl (sw_true rfl rfl rfl (by decide +kernel)) (i_tup (d_slice (d_var 0) (po_s d_int) po_n)) (blkOk_by (N := N__law_worth) (sc := defScope s__law_worth) (by decide +kernel)) (fun _ _ _ _ _ => (g_name (i := 6) sc__law_worth.nd)) (fun _ _ _ _ _ => ts_nil) (fun _ _ _ _ _ => (d_callX 0 ih__law_worth (by decide) dfl0 (hr.mono (by omega)) (md_blk (K := K) (Z := Z) M.gd) (a_cons (d_var 6) (a_cons (d_var 1) (a_cons (d_var 2) (a_cons (d_var 3) a_nil)))))))
      (ss_cons (s_if (t_cmp (o_eq hr.units) (d_ix (d_var 0) d_int) d_str)
      (ss_one (s_ret (d_callB (c_minL rfl) rfl T.b_min (by decide +kernel) (a_cons (d_var 5) a_nil))))
      ss_nil)
      (ss_one (s_ret (d_callB (c_maxL rfl) rfl T.b_max boot_max (a_cons (d_var 5) a_nil))))))))⟩)
      (fun ds μ Q E h => ?_) (rd := rd__law_worth n)
    obtain ⟨b0, b1, b2, b3, e, h⟩ := id h
    subst e
    exact read__law_worth n b0 b1 b2 b3 μ Q E (by assumption)
theorem c__law_worth (T : Txt K mg w) : Cal P w K mg base 10 "_law_worth" ["_law_told_here", "_law_rows", "_law_kind", "_law_case"] [] (sp__law_worth 9) := (cs__law_worth T 9)
/-! ### _law_unlike_in: 0 _law_found, 1 _law_one, 2 _law_other, 3 _law_rows, 4 _law_row -/
abbrev N__law_unlike_in : List Str := ["_law_found", "_law_one", "_law_other", "_law_rows", "_law_row"]
theorem sc__law_unlike_in : FnScope N__law_unlike_in ["_law_found", "_law_one", "_law_other"] (defScope s__law_unlike_in) := ⟨rfl, rfl, rfl, by decide +kernel, rfl, by decide +kernel, by decide +kernel⟩
def sp__law_unlike_in : DSp := Sp3 fun a b c μ Q _ => ∃ (cs S : List Cl) (z : Case) (t1 t2 : Tm), a = bookD cs S z ∧ b = toldD t1 ∧ c = toldD t2 ∧ cs.length ≤ 6 ∧ (∀ c ∈ cs, CdOk c) ∧ Beside cs z ∧ okT t1 ∧ okT t2 ∧ (∀ c ∈ cls t1, c ∈ cs) ∧ (∀ c ∈ cls t2, c ∈ cs) ∧ sg S t1 ≠ sg S t2 ∧ ∀ μ', LeM μ μ' → Q (.bl true) μ'
instance st_sp__law_unlike_in {a b c : D} {μ : Mem} {Q : QM} {u5 : DX} : Step (sp__law_unlike_in [a, b, c] μ Q u5) (∃ (cs S : List Cl) (z : Case) (t1 t2 : Tm), a = bookD cs S z ∧ b = toldD t1 ∧ c = toldD t2 ∧ cs.length ≤ 6 ∧ (∀ c ∈ cs, CdOk c) ∧ Beside cs z ∧ okT t1 ∧ okT t2 ∧ (∀ c ∈ cls t1, c ∈ cs) ∧ (∀ c ∈ cls t2, c ∈ cs) ∧ sg S t1 ≠ sg S t2 ∧ ∀ μ', LeM μ μ' → Q (.bl true) μ') := ⟨fun h => ⟨_, _, _, rfl, h⟩⟩
def rd__law_unlike_in (E : DX) : DS := (dSeq (dIfS (dOr (dNot (dTest (dCB rdIsi (dCons (dVar 0) (dCons (dC (.ty "tuple")) dNil))))) (dTest (dOp rdNe (dCB rdLen (dCons (dVar 0) dNil)) (dC (.int 2))))) (dRet (dC (.bl false))) dNext)
  (dSeq (dSet 3 (dCell (fLc (diAny (dOp rdIx (dVar 0) (dC (.int 0)))) (gdName 4) dYes (dTup (dCons (dOp rdIx (dVar 4) (dC (.int 0))) (dCons (dC (.str "a")) (dCons (dOp rdIx (dVar 4) (dC (.int 1))) (dCons (dOp rdIx (dVar 4) (dC (.int 2))) dNil))))) [4])))
  (dRet (dOp rdNe (dCallX (sp__law_worth 9) [] (XDE E) (dCons (dVar 1) (dCons (dVar 3) (dCons (dC (.str "a")) (dCons (dOp rdIx (dVar 0) (dC (.int 1))) dNil))))) (dCallX (sp__law_worth 9) [] (XDE E) (dCons (dVar 2) (dCons (dVar 3) (dCons (dC (.str "a")) (dCons (dOp rdIx (dVar 0) (dC (.int 1))) dNil)))))))))
theorem read__law_unlike_in : ∀ (a0 a1 a2 : D) (μ : Mem) (Q : QM) (E : DX), sp__law_unlike_in [a0, a1, a2] μ Q E → rd__law_unlike_in E ⟨fun _ μ2 => Q .non μ2, Q, fun _ _ => False, fun _ _ => False⟩ [.val a0, .val a1, .val a2, .no, .no] μ := by
  rintro _ _ _ μ Q E ⟨_, _, _, e, cs, S, z, t1, t2, rfl, rfl, rfl, c6, co, B, o1, o2, h1, h2, hne, kq⟩
  cases e
  unfold rd__law_unlike_in
  unfold bookD
  walk_at "go"
  refine ite_nd (fun h => absurd rfl h) (fun _ => ?_)
  walk_at "go"
  have na : isName "a" = true := by decide +kernel
  refine lc_map (fun c => rowD (bkRow "a" S z c)) rfl (by omega) (fun c hc P hP => ?_) ?_
  · walk_at "wp"
    walk_at "go"
    exact hP
  intro r hr
  rw [show cs.map (fun c => rowD (bkRow "a" S z c)) = (cs.map (bkRow "a" S z)).map rowD from by rw [List.map_map]; rfl]
  walk_at "go"
  refine ⟨t1, r, cs.map (bkRow "a" S z), "a", z, rfl, o1, by have := ok_dp o1; omega, rfl, updM_same, bk_ok B na co, rfl, na, rfl, B.ok, ?_⟩
  rw [tw_bk B na co t1 o1 h1]
  walk_at "go"
  refine ⟨t2, r, cs.map (bkRow "a" S z), "a", z, rfl, o2, by have := ok_dp o2; omega, rfl, updM_same, bk_ok B na co, rfl, na, rfl, B.ok, ?_⟩
  rw [tw_bk B na co t2 o2 h2]
  walk_at "go"
  rw [decide_eq_false hne]
  exact kq _ (LeM.new hr)
theorem c__law_unlike_in (T : Txt K mg w) : Cal P w K mg base 11 "_law_unlike_in" ["_law_found", "_law_one", "_law_other"] [] sp__law_unlike_in := by
  refine cal_of T.d__law_unlike_in sc__law_unlike_in (fun ds μ Q E h => by obtain ⟨_, _, _, rfl, _⟩ := h; rfl) (fun _ _ _ _ _ _ us hl => match us, hl with | [_, _, _], _ => rfl) (fun f Z cdv A outer s H _ E hr M hcd =>
      ⟨_, (ss_cons (s_if (t_w (w_or (t_not (t_valP (d_callB c_isi rfl T.b_isinstance (by decide +kernel) (a_cons (d_var 0) (a_cons (d_bltn rfl T.b_tuple (by decide +kernel)) a_nil))))) (w_or1 (t_cmp (o_ne hr.units) (d_callB c_len rfl T.b_len PySem.boot_len (a_cons (d_var 0) a_nil)) d_int))))
      (ss_one (s_ret d_bl))
      ss_nil)
      (ss_cons (s_lcM (i := 3) (own := [("_law_row", 4)]) rfl sc__law_unlike_in.nd (go_name (by decide)) rfl rfl (sw_true rfl rfl rfl (by decide +kernel)) (i_any (d_ix (d_var 0) d_int)) (blkOk_by (N := N__law_unlike_in) (sc := defScope s__law_unlike_in) (by decide +kernel)) (fun _ _ _ _ _ => (g_name (i := 4) sc__law_unlike_in.nd)) (fun _ _ _ _ _ => ts_nil) (fun _ _ _ _ _ => (d_tup (a_cons (d_ix (d_var 4) d_int) (a_cons d_str (a_cons (d_ix (d_var 4) d_int) (a_cons (d_ix (d_var 4) d_int) a_nil)))))))
      (ss_one (s_ret (d_cmp (o_ne hr.units) (d_callX 0 (c__law_worth T) (by decide) dfl0 (hr.mono (by decide)) M (a_cons (d_var 1) (a_cons (d_var 3) (a_cons d_str (a_cons (d_ix (d_var 0) d_int) a_nil))))) (d_callX 0 (c__law_worth T) (by decide) dfl0 (hr.mono (by decide)) M (a_cons (d_var 2) (a_cons (d_var 3) (a_cons d_str (a_cons (d_ix (d_var 0) d_int) a_nil))))))))))⟩)
    (fun ds μ Q E h => ?_) (rd := rd__law_unlike_in)
  obtain ⟨b0, b1, b2, e, h⟩ := id h
  subst e
  exact read__law_unlike_in b0 b1 b2 μ Q E (by assumption)
/-! ### law: 0 _law_script, 1 _law_draw, 2 _law_many, 3 _law_towns, 4 _law_calls_here, 5 _law_told_here, 6 _law_term, 7 _law_pairs, 8 _law_back, 9 _law_k, 10 _law_lesser, 11 _law_less -/
abbrev N_law : List Str := ["_law_script", "_law_draw", "_law_many", "_law_towns", "_law_calls_here", "_law_told_here", "_law_term", "_law_pairs", "_law_back", "_law_k", "_law_lesser", "_law_less"]
theorem sc_law : FnScope N_law ["_law_script"] (defScope s_law) := ⟨rfl, rfl, rfl, by decide +kernel, rfl, by decide +kernel, by decide +kernel⟩
def sp_law : DSp := Sp1 fun a μ Q _ => ∃ ns : List Int, a = .scr (ns.map .int) ∧ ns.length ≤ 63 ∧ ∀ μ', Q (.bl true) μ'
theorem law_start (ns : List Int) (h : ns.length ≤ 63) : sp_law [.scr (ns.map .int)] (fun _ => none) (fun d _ => d = .bl true) X0 := ⟨_, rfl, ns, rfl, h, fun _ => rfl⟩
instance st_sp_law {a : D} {μ : Mem} {Q : QM} {u3 : DX} : Step (sp_law [a] μ Q u3) (∃ ns : List Int, a = .scr (ns.map .int) ∧ ns.length ≤ 63 ∧ ∀ μ', Q (.bl true) μ') := ⟨fun h => ⟨_, rfl, h⟩⟩
def rd_law (E : DX) : DS := (dSeq (dSet 1 (dDrwNew (dCons (dVar 0) (dCons (dC (.int 0)) dNil))))
  (dSeq (dSet 2 (dOp rdAdd (dC (.int 1)) (dCallX sp__law_next [] (XDE E) (dCons (dVar 1) (dCons (dC (.int 3)) dNil)))))
  (dSeq (dSet 3 (dOp rdAdd (dLst (dCons (dC .non) dNil)) (dCallX sp__law_words [] (XDE E) (dCons (dVar 1) (dCons (dC (.int 3)) dNil)))))
  (dSeq (dSet 4 (dCallX sp__law_calls [] (XDE E) (dCons (dVar 1) (dCons (dVar 3) (dCons (dIce (fLc (diRng1 (dCons (dC (.int 3)) dNil)) (gdName 9) dYes (dCallX sp__law_day [] XD0 (dCons (dVar 1) dNil)) [9])) (dCons (dVar 2) dNil))))))
  (dSeq (dSet 5 (dCallX (sp__law_told 9) [] (XDE E) (dCons (dVar 1) (dCons (dVar 4) (dCons (dOp rdAdd (dC (.int 2)) (dCallX sp__law_next [] (XDE E) (dCons (dVar 1) (dCons (dC (.int 5)) dNil)))) (dCons (dC (.int 30)) dNil))))))
  (dSeq (dSet 6 (dCallX (sp__law_build 9) [] (XDE E) (dCons (dVar 5) dNil)))
  (dSeq (dSet 7 (dCallX sp_form [] (XDE E) (dCons (dVar 6) dNil)))
  (dSeq (dIfS (dNot (dTest (dCallX sp__law_form_sound [] (XDE E) (dCons (dVar 7) dNil)))) (dRet (dC (.bl false))) dNext)
  (dSeq (dSet 8 (dCallX (sp_term_of 9) [] (XDE E) (dCons (dCallX sp__law_written [] (XDE E) (dCons (dVar 7) dNil)) dNil)))
  (dSeq (dIfS (dOr (dNot (dTest (dCallX (sp__law_alike 12) [] (XDE E) (dCons (dCallX sp_form [] (XDE E) (dCons (dVar 8) dNil)) (dCons (dVar 7) dNil))))) (dOr (dTest (dOp rdNotN (dCallX sp_parted [] (XDE E) (dCons (dVar 6) (dCons (dVar 8) dNil))) (dC .non))) (dTest (dOp rdNotN (dCallX sp_parted [] (XDE E) (dCons (dVar 8) (dCons (dVar 6) dNil))) (dC .non))))) (dRet (dC (.bl false))) dNext)
  (dSeq (dFor (diRng1 (dCons (dCB rdLen (dCons (dVar 7) dNil)) dNil)) (gdName 9) (dSeq (dSet 10 (dCallX sp__law_written [] (XDE E) (dCons (dOp rdAdd (dSl (dVar 7) dNoPart (dPart (dVar 9))) (dSl (dVar 7) (dPart (dOp rdAdd (dVar 9) (dC (.int 1)))) dNoPart)) dNil)))
  (dSeq (dSet 11 (dCallX (sp_term_of 9) [] (XDE E) (dCons (dVar 10) dNil)))
  (dIfS (dOr (dTest (dOp rdEq (dCallX sp_form [] (XDE E) (dCons (dVar 11) dNil)) (dVar 7))) (dNot (dTest (dCallX sp__law_unlike_in [] (XDE E) (dCons (dCallX sp_parted [] (XDE E) (dCons (dVar 6) (dCons (dVar 11) dNil))) (dCons (dVar 5) (dCons (dVar 10) dNil))))))) (dRet (dC (.bl false))) dNext))))
  (dRet (dC (.bl true))))))))))))))
theorem read_law : ∀ (a0 : D) (μ : Mem) (Q : QM) (E : DX), sp_law [a0] μ Q E → rd_law X0 ⟨fun _ μ2 => Q .non μ2, Q, fun _ _ => False, fun _ _ => False⟩ [.val a0, .no, .no, .no, .no, .no, .no, .no, .no, .no, .no, .no] μ := by
  rintro _ μ Q E ⟨_, e, ns, rfl, hl, kq⟩
  cases e
  unfold rd_law
  walk_at "go"
  refine ⟨hl, ?_⟩
  walk_at "go"
  refine ⟨_, _, rfl, rfl, by decide, fun mn mn0 mn1 => ?_⟩
  walk_at "go"
  refine ⟨ns, 3, rfl, rfl, by decide, fun ts T3 T Tn => ?_⟩
  walk_at "go"
  refine i_addL (sz_of (by simp; omega)) ?_
  rw [show [Dl.D.non] ++ ts.map Dl.D.str = (none :: ts.map some).map toD from by simp [toD]]
  walk_at "go"
  refine lc_rng (fun i : Int => .int i) (fun v => 0 ≤ v ∧ v ≤ 9999) rfl (by decide) (fun i _ P hP => ?_) (fun dys D3 DD => ?_)
  · walk_at "wp"
    walk_at "go"
    exact fun v v0 v1 => ⟨rfl, hP v ⟨v0, v1⟩⟩
  have D3 : dys.length = 3 := D3
  walk_at "go"
  refine ⟨ns, none :: ts.map some, dys, (1 + mn).toNat, rfl, rfl, by simp, by simp; omega, fun t ht => ?_, rfl, by omega, by omega, DD, by congr 1; omega, by omega, fun cs cl cok => ?_⟩
  · rcases List.mem_cons.mp ht with rfl | ht
    · trivial
    · obtain ⟨z, hz, rfl⟩ := List.mem_map.mp ht
      exact T z hz
  have cl : cs.length ≤ 3 ∧ 0 < cs.length := by omega
  walk_at "go"
  refine ⟨_, _, rfl, rfl, by decide, fun dd dd0 dd1 => ?_⟩
  walk_at "go"
  refine ⟨ns, cs, (2 + dd).toNat, 30, rfl, rfl, by omega, by omega, cok, by congr 1; omega, by omega, by omega, by omega, rfl, by decide, by decide, fun t _ _ ok hc => ?_⟩
  have hd := ok_dp ok
  have ol : (ords (cls t)).length ≤ 3 := by have := ords_len hc; omega
  have pn : (prs t).length ≤ 8 := by
    unfold prs
    rw [List.length_map]
    refine Nat.le_trans (List.length_filter_le _ _) ?_
    rw [sbs_many]
    calc 2 ^ (ords (cls t)).length ≤ 2 ^ 3 := Nat.pow_le_pow_right (by decide) ol
      _ = 8 := by decide
  have pc : ∀ x ∈ prs t, x.1.length ≤ 3 ∧ (∀ c ∈ x.1, c ∈ cs) ∧ (∀ c ∈ x.1, CdOk c) ∧ 1 ≤ x.2 ∧ x.2 ≤ 1000000 := fun x hx => by
    obtain ⟨p, hp, e, _⟩ := prs_mem hx
    obtain ⟨i1, i2, i3, i4⟩ := (prs_inn ok x).mp hx
    have h1 : x.1.length ≤ 3 := by rw [e]; simp only [pick, List.length_map]; have := hp.length_le; simp at this; omega
    have h2 : ∀ c ∈ x.1, c ∈ cs := fun c h => by rw [e] at h; exact hc c (((ords_spec (cls t)).2 c).mp (pick_mem hp c h))
    exact ⟨h1, h2, fun c h => cok c (h2 c h), by omega, prs_bd ok x hx⟩
  have okw : ∀ qs : List (List Cl × Int), qs.length ≤ 8 → (∀ x ∈ qs, x ∈ prs t) → okT (wr qs) ∧ dp (wr qs) ≤ 3 ∧ (∀ c ∈ cls (wr qs), c ∈ cs) ∧ (ords (cls (wr qs))).length ≤ 6 ∧ (ords (cls t ++ cls (wr qs))).length ≤ 6 ∧ (ords (cls (wr qs) ++ cls t)).length ≤ 6 := fun qs ql qm => by
    obtain ⟨w1, w2⟩ := wr_ok (ps := qs) ⟨ql, fun x hx => by obtain ⟨a, _, b, c, d⟩ := pc x (qm x hx); exact ⟨a, b, by omega, d⟩⟩
    have w3 := cls_wr (ps := qs) (U := cs) fun x hx => (pc x (qm x hx)).2.1
    refine ⟨w1, w2, w3, ?_, ?_, ?_⟩
    · have := ords_len w3; omega
    · have := ords_len (l := cls t ++ cls (wr qs)) (U := cs) fun c h => (List.mem_append.mp h).elim (hc c) (w3 c); omega
    · have := ords_len (l := cls (wr qs) ++ cls t) (U := cs) fun c h => (List.mem_append.mp h).elim (w3 c) (hc c); omega
  obtain ⟨b1, b2, b3, b4, b5, b6⟩ := okw (prs t) pn fun x hx => hx
  walk_at "go"
  refine ⟨t, rfl, ok, by omega, ?_⟩
  walk_at "go"
  refine ⟨t, rfl, ok, by omega, fun μ1 le1 => ?_⟩
  walk_at "go"
  refine ⟨prs t, rfl, pn, fun x hx => by obtain ⟨a, _, b, c, d⟩ := pc x hx; exact ⟨by omega, c, d⟩, ?_⟩
  walk_at "go"
  refine ⟨prs t, rfl, pn, fun x hx => by obtain ⟨a, _, b, c, d⟩ := pc x hx; exact ⟨by omega, b⟩, ?_⟩
  walk_at "go"
  refine ⟨wr (prs t), rfl, b1, by omega, ?_⟩
  walk_at "go"
  refine ⟨wr (prs t), rfl, b1, b4, fun μ2 le2 => ?_⟩
  rw [prs_back ok b1]
  walk_at "go"
  refine ⟨rfl, al_prs (by omega) (fun x hx => by obtain ⟨a, _, b, c, d⟩ := pc x hx; exact ⟨by omega, b⟩), ?_⟩
  walk_at "go"
  refine ⟨t, wr (prs t), rfl, rfl, ok, b1, b5, fun _ μ3 le3 => ?_, fun S z _ _ h _ => absurd (wr_same ok S b1).symm h⟩
  walk_at "go"
  refine ⟨wr (prs t), t, rfl, rfl, b1, ok, b6, fun _ μ4 le4 => ?_, fun S z _ _ h _ => absurd (wr_same ok S b1) h⟩
  walk_at "go"
  refine ⟨(prs t).length, by rw [List.length_map], by omega, by omega, ?_⟩
  refine for_rng (fun i δ μ' => δ = [.val (.scr (ns.map .int)), .val (.drw ns), .val (.int (1 + mn)), .val (.lst ((none :: ts.map some).map toD)), .val (.lst (cs.map cdT)), .val (toldD t), .val (tmD t), .val (.tup ((prs t).map prD)), .val (tmD (wr (prs t))), .no, .no, .no]) (wn rfl (by simp [Le])) (fun i δ μ' hi w => ?_) (fun δ μ' w => ?_)
  · subst w
    have hi : i < (prs t).length := by omega
    have e : prs t = (prs t).take i ++ (prs t)[i] :: (prs t).drop (i + 1) := by
      rw [← List.drop_eq_getElem_cons hi, List.take_append_drop]
    have qm : ∀ x ∈ (prs t).take i ++ (prs t).drop (i + 1), x ∈ prs t := fun x hx => (List.mem_append.mp hx).elim List.mem_of_mem_take List.mem_of_mem_drop
    have ql : ((prs t).take i ++ (prs t).drop (i + 1)).length ≤ 8 := by simp; omega
    obtain ⟨w1, w2, w3, w4, w5, w6⟩ := okw _ ql qm
    have less := wr_less ok e w1
    have hx : (prs t)[i] ∈ prs t := List.getElem_mem _
    generalize (prs t)[i] = x at e less hx
    have ne : prs (wr ((prs t).take i ++ (prs t).drop (i + 1))) ≠ prs t := fun z => by
      have h1 := ((prs_inn ok _).mp hx).2.1
      rw [← z] at hx
      have h2 := ((prs_inn w1 _).mp hx).2.1
      dsimp only at h1 h2
      omega
    walk_at "go"
    rw [show (0 : Int) + (i : Nat) = (i : Nat) from Int.zero_add _, show ((i : Nat) : Int) + 1 = ((i + 1 : Nat) : Int) from rfl, cut_toN (by simp; omega), cut_fromN (by simp; omega)]
    refine i_addT (by simp; exact Nat.le_trans (show _ ≤ 100 by omega) (by decide)) ?_
    rw [show ((prs t).map prD).take i ++ ((prs t).map prD).drop (i + 1) = ((prs t).take i ++ (prs t).drop (i + 1)).map prD from by simp]
    generalize (prs t).take i ++ (prs t).drop (i + 1) = qs at ql qm w1 w2 w3 w4 w5 w6 less ne
    have qo : ∀ x ∈ qs, x.1.length ≤ 6 ∧ (∀ c ∈ x.1, CdOk c) := fun x hx => by obtain ⟨a, _, b, c, d⟩ := pc x (qm x hx); exact ⟨by omega, b⟩
    walk_at "go"
    refine ⟨qs, rfl, ql, qo, ?_⟩
    walk_at "go"
    refine ⟨wr qs, rfl, w1, by omega, ?_⟩
    walk_at "go"
    refine ⟨wr qs, rfl, w1, w4, fun μ2 le2 => ?_⟩
    walk_at "go"
    refine eq_pl (pl_prs fun x hx => (prs_ok w1 w4 x hx).2.1) (pl_prs fun x hx => (pc x hx).2.2.1) (by decide) (by decide) (eq_prs _ _) ?_
    rw [decide_eq_false ne]
    walk_at "go"
    refine ⟨t, wr qs, rfl, rfl, ok, w1, w5, fun h => absurd (h x.1) (by omega), fun S z μ3 le3 hne B => ?_⟩
    walk_at "go"
    refine ⟨ords (cls t ++ cls (wr qs)), S, z, t, wr qs, rfl, rfl, rfl, w5, fun c hcc => ?_, B, ok, w1, fun c hcc => ((ords_spec _).2 c).mpr (List.mem_append_left _ hcc), fun c hcc => ((ords_spec _).2 c).mpr (List.mem_append_right _ hcc), hne, fun μ4 le4 => ?_⟩
    · exact cok c ((List.mem_append.mp (((ords_spec _).2 c).mp hcc)).elim (hc c) (w3 c))
    walk_at "go"
    exact wn rfl (by simp [Le])
  · subst w
    walk_at "go"
    exact kq _
theorem c_law (T : Txt K mg w) : Cal0 P w K mg base 23 "law" ["_law_script"] sp_law := by
  refine cal0_of T.d_law sc_law (fun ds μ Q E h => by obtain ⟨_, rfl, _⟩ := h; rfl) (fun _ _ _ _ _ _ us hl => match us, hl with | [_], _ => rfl) (fun f Z cdv A outer s H _ hr M hcd =>
      ⟨_, (ss_cons (s_set (i := 1) sc_law.nd (d_drwNew (a_cons (d_var 0) (a_cons d_int a_nil))))
      (ss_cons (s_set (i := 2) sc_law.nd (d_op o_add d_int (d_callX 0 (c__law_next T) (by decide) dfl0 (hr.mono (by decide)) M (a_cons (d_var 1) (a_cons d_int a_nil)))))
      (ss_cons (s_set (i := 3) sc_law.nd (d_op o_add (d_lst (a_cons d_non a_nil)) (d_callX 0 (c__law_words T) (by decide) dfl0 (hr.mono (by decide)) M (a_cons (d_var 1) (a_cons d_int a_nil)))))
      (ss_cons (s_set (i := 4) sc_law.nd (d_callX 0 (c__law_calls T) (by decide) dfl0 (hr.mono (by decide)) M (a_cons (d_var 1) (a_cons (d_var 3) (a_cons (d_ice (f_lc (own := [("_law_k", 9)]) rfl sc_law.nd (go_name (by decide)) (i_range1 rfl T.b_range (a_cons d_int a_nil)) (blkOk_by (N := N_law) (sc := defScope s_law) (by decide +kernel)) (fun _ _ _ _ _ => (g_name (i := 9) sc_law.nd)) (fun _ _ _ _ _ => ts_nil) (fun _ _ _ _ _ => (d_callX 0 (c__law_day T) (by decide) dfl0 (hr.mono (by decide)) (md_blk (K := K) (Z := Z) M.gd) (a_cons (d_var 1) a_nil))))) (a_cons (d_var 2) a_nil))))))
      (ss_cons (s_set (i := 5) sc_law.nd (d_callX 0 (c__law_told T) (by decide) dfl0 (hr.mono (by decide)) M (a_cons (d_var 1) (a_cons (d_var 4) (a_cons (d_op o_add d_int (d_callX 0 (c__law_next T) (by decide) dfl0 (hr.mono (by decide)) M (a_cons (d_var 1) (a_cons d_int a_nil)))) (a_cons d_int a_nil))))))
      (ss_cons (s_set (i := 6) sc_law.nd (d_callX 0 (c__law_build T) (by decide) dfl0 (hr.mono (by decide)) M (a_cons (d_var 5) a_nil)))
      (ss_cons (s_set (i := 7) sc_law.nd (d_callX 0 (c_form T) (by decide) dfl0 (hr.mono (by decide)) M (a_cons (d_var 6) a_nil)))
      (ss_cons (s_if (t_not (t_valP (d_callX 0 (c__law_form_sound T) (by decide) dfl0 (hr.mono (by decide)) M (a_cons (d_var 7) a_nil))))
      (ss_one (s_ret d_bl))
      ss_nil)
      (ss_cons (s_set (i := 8) sc_law.nd (d_callX 0 (c_term_of T) (by decide) dfl0 (hr.mono (by decide)) M (a_cons (d_callX 0 (c__law_written T) (by decide) dfl0 (hr.mono (by decide)) M (a_cons (d_var 7) a_nil)) a_nil)))
      (ss_cons (s_if (t_w (w_or (t_not (t_valP (d_callX 0 (c__law_alike T) (by decide) dfl0 (hr.mono (by decide)) M (a_cons (d_callX 0 (c_form T) (by decide) dfl0 (hr.mono (by decide)) M (a_cons (d_var 8) a_nil)) (a_cons (d_var 7) a_nil))))) (w_or (t_cmp o_notN (d_callX 0 (c_parted T) (by decide) dfl0 (hr.mono (by decide)) M (a_cons (d_var 6) (a_cons (d_var 8) a_nil))) d_non) (w_or1 (t_cmp o_notN (d_callX 0 (c_parted T) (by decide) dfl0 (hr.mono (by decide)) M (a_cons (d_var 8) (a_cons (d_var 6) a_nil))) d_non)))))
      (ss_one (s_ret d_bl))
      ss_nil)
      (ss_cons (s_for M.ow rfl (i_range1 rfl T.b_range (a_cons (d_callB c_len rfl T.b_len PySem.boot_len (a_cons (d_var 7) a_nil)) a_nil)) (g_name (i := 9) sc_law.nd)
      (ss_cons (s_set (i := 10) sc_law.nd (d_callX 0 (c__law_written T) (by decide) dfl0 (hr.mono (by decide)) M (a_cons (d_op o_add (d_slice (d_var 7) po_n (po_s (d_var 9))) (d_slice (d_var 7) (po_s (d_op o_add (d_var 9) d_int)) po_n)) a_nil)))
      (ss_cons (s_set (i := 11) sc_law.nd (d_callX 0 (c_term_of T) (by decide) dfl0 (hr.mono (by decide)) M (a_cons (d_var 10) a_nil)))
      (ss_one (s_if (t_w (w_or (t_cmp (o_eq hr.units) (d_callX 0 (c_form T) (by decide) dfl0 (hr.mono (by decide)) M (a_cons (d_var 11) a_nil)) (d_var 7)) (w_or1 (t_not (t_valP (d_callX 0 (c__law_unlike_in T) (by decide) dfl0 (hr.mono (by decide)) M (a_cons (d_callX 0 (c_parted T) (by decide) dfl0 (hr.mono (by decide)) M (a_cons (d_var 6) (a_cons (d_var 11) a_nil))) (a_cons (d_var 5) (a_cons (d_var 10) a_nil)))))))))
      (ss_one (s_ret d_bl))
      ss_nil)))))
      (ss_one (s_ret d_bl)))))))))))))⟩)
    (fun ds μ Q E h => ?_) (rd := rd_law)
  obtain ⟨b0, e, h⟩ := id h
  subst e
  exact read_law b0 μ Q E (by assumption)
theorem facts {P : Program} {w : World} {K : PySem.W.Frag} {h : Heap} {mg : Str → Option Value} {f : Addr} (X : K.In h) (G : h.Ns mainGlobals mg) (hfa : mg ("law" : Str) = some (.ref f)) (c : He.SaysD fa fn K) (cx : ex K = true) (ck : ∀ (i : Nat) {x : Str} {ks : List Str}, tks[i]? = some (x, ks) → He.dicW K (He.ga K x) = some (He.keysIn w.params ks)) :
    ∃ fd : FuncData, (∀ (s : Shared) (v : Value), BindsTo s fd ⟨[v], []⟩ [("_law_script", v)]) ∧ ∀ base : Heap, K.In base → base.Ns mainGlobals mg → FnG P w K mg base CX0 23 f fd ["_law_script"] (up K sp_law) := by
  obtain ⟨fd__law_mixed, F__law_mixed⟩ := c.def_ 0 (d := dd__law_mixed) rfl
  obtain ⟨fd__law_next, F__law_next⟩ := c.def_ 1 (d := dd__law_next) rfl
  obtain ⟨fd__law_word, F__law_word⟩ := c.def_ 2 (d := dd__law_word) rfl
  obtain ⟨fd__law_words, F__law_words⟩ := c.def_ 3 (d := dd__law_words) rfl
  obtain ⟨fd__law_calls, F__law_calls⟩ := c.def_ 4 (d := dd__law_calls) rfl
  obtain ⟨fd__law_day, F__law_day⟩ := c.def_ 5 (d := dd__law_day) rfl
  obtain ⟨fd__law_level, F__law_level⟩ := c.def_ 6 (d := dd__law_level) rfl
  obtain ⟨fd__law_told, F__law_told⟩ := c.def_ 7 (d := dd__law_told) rfl
  obtain ⟨fd_is_number, F_is_number⟩ := c.def_ 8 (d := dd_is_number) rfl
  obtain ⟨fd_ask_worth, F_ask_worth⟩ := c.def_ 9 (d := dd_ask_worth) rfl
  obtain ⟨fd_Level___init__, F_Level___init__⟩ := c.def_ 10 (d := dd_Level___init__) rfl
  obtain ⟨fd_is_name, F_is_name⟩ := c.def_ 11 (d := dd_is_name) rfl
  obtain ⟨fd_ask_name, F_ask_name⟩ := c.def_ 12 (d := dd_ask_name) rfl
  obtain ⟨fd_Called___init__, F_Called___init__⟩ := c.def_ 13 (d := dd_Called___init__) rfl
  obtain ⟨fd_Level_rules, F_Level_rules⟩ := c.def_ 14 (d := dd_Level_rules) rfl
  obtain ⟨fd_Called_rules, F_Called_rules⟩ := c.def_ 15 (d := dd_Called_rules) rfl
  obtain ⟨fd_Least_rules, F_Least_rules⟩ := c.def_ 16 (d := dd_Least_rules) rfl
  obtain ⟨fd_Greatest_rules, F_Greatest_rules⟩ := c.def_ 17 (d := dd_Greatest_rules) rfl
  obtain ⟨fd_Level_deep, F_Level_deep⟩ := c.def_ 18 (d := dd_Level_deep) rfl
  obtain ⟨fd_Called_deep, F_Called_deep⟩ := c.def_ 19 (d := dd_Called_deep) rfl
  obtain ⟨fd_Least_deep, F_Least_deep⟩ := c.def_ 20 (d := dd_Least_deep) rfl
  obtain ⟨fd_Greatest_deep, F_Greatest_deep⟩ := c.def_ 21 (d := dd_Greatest_deep) rfl
  obtain ⟨fd_Least___init__, F_Least___init__⟩ := c.def_ 22 (d := dd_Least___init__) rfl
  obtain ⟨fd_Greatest___init__, F_Greatest___init__⟩ := c.def_ 23 (d := dd_Greatest___init__) rfl
  obtain ⟨fd__law_build, F__law_build⟩ := c.def_ 24 (d := dd__law_build) rfl
  obtain ⟨fd_rank, F_rank⟩ := c.def_ 25 (d := dd_rank) rfl
  obtain ⟨fd_ordered, F_ordered⟩ := c.def_ 26 (d := dd_ordered) rfl
  obtain ⟨fd_calls_in, F_calls_in⟩ := c.def_ 27 (d := dd_calls_in) rfl
  obtain ⟨fd_sets_of, F_sets_of⟩ := c.def_ 28 (d := dd_sets_of) rfl
  obtain ⟨fd_strength, F_strength⟩ := c.def_ 29 (d := dd_strength) rfl
  obtain ⟨fd_form, F_form⟩ := c.def_ 30 (d := dd_form) rfl
  obtain ⟨fd__law_form_sound, F__law_form_sound⟩ := c.def_ 31 (d := dd__law_form_sound) rfl
  obtain ⟨fd_term_of, F_term_of⟩ := c.def_ 32 (d := dd_term_of) rfl
  obtain ⟨fd__law_pair, F__law_pair⟩ := c.def_ 33 (d := dd__law_pair) rfl
  obtain ⟨fd__law_written, F__law_written⟩ := c.def_ 34 (d := dd__law_written) rfl
  obtain ⟨fd__law_alike, F__law_alike⟩ := c.def_ 35 (d := dd__law_alike) rfl
  obtain ⟨fd_day_beside, F_day_beside⟩ := c.def_ 36 (d := dd_day_beside) rfl
  obtain ⟨fd_book_of, F_book_of⟩ := c.def_ 37 (d := dd_book_of) rfl
  obtain ⟨fd_parted, F_parted⟩ := c.def_ 38 (d := dd_parted) rfl
  obtain ⟨fd__law_call_worth, F__law_call_worth⟩ := c.def_ 39 (d := dd__law_call_worth) rfl
  obtain ⟨fd__law_worth, F__law_worth⟩ := c.def_ 40 (d := dd__law_worth) rfl
  obtain ⟨fd__law_unlike_in, F__law_unlike_in⟩ := c.def_ 41 (d := dd__law_unlike_in) rfl
  obtain ⟨fd_law, F_law⟩ := c.def_ 42 (d := dd_law) rfl
  have T : Txt K mg w := { d__law_mixed := ⟨_, fd__law_mixed, F__law_mixed, He.glo_ok X G (c.fact 0 (f := .glo "_law_mixed") rfl)⟩, d__law_next := ⟨_, fd__law_next, F__law_next, He.glo_ok X G (c.fact 1 (f := .glo "_law_next") rfl)⟩, d__law_word := ⟨_, fd__law_word, F__law_word, He.glo_ok X G (c.fact 2 (f := .glo "_law_word") rfl)⟩, d__law_words := ⟨_, fd__law_words, F__law_words, He.glo_ok X G (c.fact 3 (f := .glo "_law_words") rfl)⟩, d__law_calls := ⟨_, fd__law_calls, F__law_calls, He.glo_ok X G (c.fact 4 (f := .glo "_law_calls") rfl)⟩, d__law_day := ⟨_, fd__law_day, F__law_day, He.glo_ok X G (c.fact 5 (f := .glo "_law_day") rfl)⟩, d__law_level := ⟨_, fd__law_level, F__law_level, He.glo_ok X G (c.fact 6 (f := .glo "_law_level") rfl)⟩, d__law_told := ⟨_, fd__law_told, F__law_told, He.glo_ok X G (c.fact 7 (f := .glo "_law_told") rfl)⟩, d_is_number := ⟨_, fd_is_number, F_is_number, He.glo_ok X G (c.fact 8 (f := .glo "is_number") rfl)⟩, d_ask_worth := ⟨_, fd_ask_worth, F_ask_worth, He.glo_ok X G (c.fact 9 (f := .glo "ask_worth") rfl)⟩, d_is_name := ⟨_, fd_is_name, F_is_name, He.glo_ok X G (c.fact 10 (f := .glo "is_name") rfl)⟩, d_ask_name := ⟨_, fd_ask_name, F_ask_name, He.glo_ok X G (c.fact 11 (f := .glo "ask_name") rfl)⟩, d__law_build := ⟨_, fd__law_build, F__law_build, He.glo_ok X G (c.fact 12 (f := .glo "_law_build") rfl)⟩, d_rank := ⟨_, fd_rank, F_rank, He.glo_ok X G (c.fact 78 (f := .glo "rank") rfl)⟩, d_ordered := ⟨_, fd_ordered, F_ordered, He.glo_ok X G (c.fact 14 (f := .glo "ordered") rfl)⟩, d_calls_in := ⟨_, fd_calls_in, F_calls_in, He.glo_ok X G (c.fact 15 (f := .glo "calls_in") rfl)⟩, d_sets_of := ⟨_, fd_sets_of, F_sets_of, He.glo_ok X G (c.fact 16 (f := .glo "sets_of") rfl)⟩, d_strength := ⟨_, fd_strength, F_strength, He.glo_ok X G (c.fact 17 (f := .glo "strength") rfl)⟩, d_form := ⟨_, fd_form, F_form, He.glo_ok X G (c.fact 18 (f := .glo "form") rfl)⟩, d__law_form_sound := ⟨_, fd__law_form_sound, F__law_form_sound, He.glo_ok X G (c.fact 19 (f := .glo "_law_form_sound") rfl)⟩, d_term_of := ⟨_, fd_term_of, F_term_of, He.glo_ok X G (c.fact 20 (f := .glo "term_of") rfl)⟩, d__law_pair := ⟨_, fd__law_pair, F__law_pair, He.glo_ok X G (c.fact 21 (f := .glo "_law_pair") rfl)⟩, d__law_written := ⟨_, fd__law_written, F__law_written, He.glo_ok X G (c.fact 22 (f := .glo "_law_written") rfl)⟩, d__law_alike := ⟨_, fd__law_alike, F__law_alike, He.glo_ok X G (c.fact 23 (f := .glo "_law_alike") rfl)⟩, d_day_beside := ⟨_, fd_day_beside, F_day_beside, He.glo_ok X G (c.fact 24 (f := .glo "day_beside") rfl)⟩, d_book_of := ⟨_, fd_book_of, F_book_of, He.glo_ok X G (c.fact 25 (f := .glo "book_of") rfl)⟩, d_parted := ⟨_, fd_parted, F_parted, He.glo_ok X G (c.fact 26 (f := .glo "parted") rfl)⟩, d__law_call_worth := ⟨_, fd__law_call_worth, F__law_call_worth, He.glo_ok X G (c.fact 27 (f := .glo "_law_call_worth") rfl)⟩, d__law_worth := ⟨_, fd__law_worth, F__law_worth, He.glo_ok X G (c.fact 28 (f := .glo "_law_worth") rfl)⟩, d__law_unlike_in := ⟨_, fd__law_unlike_in, F__law_unlike_in, He.glo_ok X G (c.fact 29 (f := .glo "_law_unlike_in") rfl)⟩, d_law := ⟨_, fd_law, F_law, He.glo_ok X G (c.fact 30 (f := .glo "law") rfl)⟩, d_Level_rules := ⟨_, fd_Level_rules, F_Level_rules, He.meth_ok (c.fact 56 (f := .meth "Level" "rules") rfl), He.cls_ok (c.fact 50 (f := .cls "Level") rfl)⟩, d_Called_rules := ⟨_, fd_Called_rules, F_Called_rules, He.meth_ok (c.fact 57 (f := .meth "Called" "rules") rfl), He.cls_ok (c.fact 47 (f := .cls "Called") rfl)⟩, d_Least_rules := ⟨_, fd_Least_rules, F_Least_rules, He.meth_ok (c.fact 58 (f := .meth "Least" "rules") rfl), He.cls_ok (c.fact 49 (f := .cls "Least") rfl)⟩, d_Greatest_rules := ⟨_, fd_Greatest_rules, F_Greatest_rules, He.meth_ok (c.fact 59 (f := .meth "Greatest" "rules") rfl), He.cls_ok (c.fact 48 (f := .cls "Greatest") rfl)⟩, d_Level_deep := ⟨_, fd_Level_deep, F_Level_deep, He.meth_ok (c.fact 60 (f := .meth "Level" "deep") rfl), He.cls_ok (c.fact 50 (f := .cls "Level") rfl)⟩, d_Called_deep := ⟨_, fd_Called_deep, F_Called_deep, He.meth_ok (c.fact 61 (f := .meth "Called" "deep") rfl), He.cls_ok (c.fact 47 (f := .cls "Called") rfl)⟩, d_Least_deep := ⟨_, fd_Least_deep, F_Least_deep, He.meth_ok (c.fact 62 (f := .meth "Least" "deep") rfl), He.cls_ok (c.fact 49 (f := .cls "Least") rfl)⟩, d_Greatest_deep := ⟨_, fd_Greatest_deep, F_Greatest_deep, He.meth_ok (c.fact 63 (f := .meth "Greatest" "deep") rfl), He.cls_ok (c.fact 48 (f := .cls "Greatest") rfl)⟩, d_Level___init__ := ⟨_, fd_Level___init__, F_Level___init__, He.mkr_ok (c.fact 64 (f := .mkr "Level") rfl), He.glo_ok X G (c.fact 71 (f := .glo "Level") rfl)⟩, d_Called___init__ := ⟨_, fd_Called___init__, F_Called___init__, He.mkr_ok (c.fact 65 (f := .mkr "Called") rfl), He.glo_ok X G (c.fact 68 (f := .glo "Called") rfl)⟩, d_Least___init__ := ⟨_, fd_Least___init__, F_Least___init__, He.mkr_ok (c.fact 66 (f := .mkr "Least") rfl), He.glo_ok X G (c.fact 70 (f := .glo "Least") rfl)⟩, d_Greatest___init__ := ⟨_, fd_Greatest___init__, F_Greatest___init__, He.mkr_ok (c.fact 67 (f := .mkr "Greatest") rfl), He.glo_ok X G (c.fact 69 (f := .glo "Greatest") rfl)⟩, b_all := He.free_ok X G (c.fact 31 (f := .free "all") rfl), b_bool := He.free_ok X G (c.fact 32 (f := .free "bool") rfl), b_int := He.free_ok X G (c.fact 33 (f := .free "int") rfl), b_isinstance := He.free_ok X G (c.fact 34 (f := .free "isinstance") rfl), b_len := He.free_ok X G (c.fact 35 (f := .free "len") rfl), b_max := He.free_ok X G (c.fact 36 (f := .free "max") rfl), b_min := He.free_ok X G (c.fact 37 (f := .free "min") rfl), b_range := He.free_ok X G (c.fact 38 (f := .free "range") rfl), b_sorted := He.free_ok X G (c.fact 39 (f := .free "sorted") rfl), b_str := He.free_ok X G (c.fact 40 (f := .free "str") rfl), b_sum := He.free_ok X G (c.fact 41 (f := .free "sum") rfl), b_tuple := He.free_ok X G (c.fact 42 (f := .free "tuple") rfl), g_MOST_CALLS := He.int_ok X G (c.fact 43 (f := .int "MOST_CALLS" 6) rfl), g_MOST_DEEP := He.int_ok X G (c.fact 44 (f := .int "MOST_DEEP" 8) rfl), g_MOST_RULES := He.int_ok X G (c.fact 45 (f := .int "MOST_RULES" 60) rfl), g_TOP := He.int_ok X G (c.fact 46 (f := .int "TOP" 1000000) rfl), cl_Called := He.cls_ok (c.fact 47 (f := .cls "Called") rfl), cl_Greatest := He.cls_ok (c.fact 48 (f := .cls "Greatest") rfl), cl_Least := He.cls_ok (c.fact 49 (f := .cls "Least") rfl), cl_Level := He.cls_ok (c.fact 50 (f := .cls "Level") rfl), na_Called_town := He.noat_ok (c.fact 51 (f := .noat "Called" "town") rfl), na_Called_when := He.noat_ok (c.fact 52 (f := .noat "Called" "when") rfl), na_Greatest_terms := He.noat_ok (c.fact 53 (f := .noat "Greatest" "terms") rfl), na_Least_terms := He.noat_ok (c.fact 54 (f := .noat "Least" "terms") rfl), na_Level_level := He.noat_ok (c.fact 55 (f := .noat "Level" "level") rfl), ec_NoDay := ec_of (c.fact 79 (f := .exc "NoDay") rfl) (He.glo_ok X G (c.fact 72 (f := .glo "NoDay") rfl)), ec_NoName := ec_of (c.fact 80 (f := .exc "NoName") rfl) (He.glo_ok X G (c.fact 73 (f := .glo "NoName") rfl)), ec_NoTerm := ec_of (c.fact 81 (f := .exc "NoTerm") rfl) (He.glo_ok X G (c.fact 74 (f := .glo "NoTerm") rfl)), ec_NoWorth := ec_of (c.fact 82 (f := .exc "NoWorth") rfl) (He.glo_ok X G (c.fact 75 (f := .glo "NoWorth") rfl)), ec_TooMany := ec_of (c.fact 83 (f := .exc "TooMany") rfl) (He.glo_ok X G (c.fact 76 (f := .glo "TooMany") rfl)), gc_Called := He.glo_ok X G (c.fact 68 (f := .glo "Called") rfl), gc_Least := He.glo_ok X G (c.fact 70 (f := .glo "Least") rfl), gc_Level := He.glo_ok X G (c.fact 71 (f := .glo "Level") rfl), gc___builtins__ := He.glo_ok X G (c.fact 77 (f := .glo "__builtins__") rfl), gc_rank := He.glo_ok X G (c.fact 78 (f := .glo "rank") rfl), cs := cssB_ok (He.ba (cx)).1, lb := id ((He.ba (cx)).2) }
  obtain ⟨fd, hb, hF⟩ := law_facts (x := "_law_script") hfa (fun base => c_law (P := P) (w := w) (base := base) T) h
  exact ⟨fd, hb, fun base _ _ => hF base⟩
theorem at_start {K : PySem.W.Frag} {H : Hp} {a : Addr} {ns : List Int} (hl : ns.length ≤ 63) (hT : ∀ p ∈ tabC K, H p.2 = some (.tbl #[])) (hS : SqL K H a (ns.map V.int)) : up K sp_law [.ref a] H (fun v _ => v = .bl true) fun _ _ _ => False := at_script hl hT hS (law_start ns hl)
end Pf
open PySem PySem.W PySem.Calls PyProof.Rows
set_option maxRecDepth 100000 in
set_option maxHeartbeats 0 in
theorem PySem.Challenge.cw_callcoin_k30_whole_forms_back_holds : PySem.Challenge.rw_callcoin_k30_whole_forms_back.Holds := by
  w_on; o_law
  refine HandSHeadRun.head_any (r := OpenLaw.row PySem.Challenge.rw_callcoin_k30_whole_forms_back) (q := view (OpenLaw.row PySem.Challenge.rw_callcoin_k30_whole_forms_back).prog [51]) (H := Pf.hk) (ob := Pf.ob) (M := 100000) (loose := Pf.loose) (d := HandSHeadRun.topDef (OpenLaw.row PySem.Challenge.rw_callcoin_k30_whole_forms_back).prog 51) (kwd := []) Pf.ob_eq
    (by kernel_rfl) (fun s => by kernel_rfl) Pf.run (by kernel_rfl) (by kernel_rfl) (by kernel_rfl) (by rfl) (by first | assumption | decide +kernel) (by decide +kernel) ⟨rfl, rfl, rfl, rfl, rfl, by decide +kernel⟩ ?hw ?hc
  case hw => w_witness2
  case hc =>
    refine Dl.walkG (l := PySem.Challenge.rw_callcoin_k30_whole_forms_back) (n := 63) (k := 23) (x := "_law_script") (CX := L2.CX0) rfl (by decide) (by kernel_rfl) ⟨rfl, by decide, by decide⟩ ?F (fun _ _ _ _ z => z)
    intro w mg fa h Y G hmg0
    obtain ⟨K, KX, ⟨c, cx, hT, nT⟩, ck⟩ := Y
    have hmg : mg ("law" : PySem.Str) = some (.ref fa) := by
      have e : (HandSHeadRun.topDef (OpenLaw.row PySem.Challenge.rw_callcoin_k30_whole_forms_back).prog 51).name = ("law" : PySem.Str) := by kernel_rfl
      rw [← e]
      exact hmg0
    obtain ⟨fd, hb, hF⟩ := Pf.facts (P := (PySem.Challenge.rw_callcoin_k30_whole_forms_back).prog) (w := w) KX G hmg c cx (fun i _ _ e => Dl.SaysK.dic ⟨⟨c, cx, hT, nT⟩, ck⟩ i e)
    exact ⟨K, fd, Dl.up K Pf.sp_law, KX, hT, nT, hb, fun H a ns hl hT hS => Pf.at_start hl hT hS, hF⟩
